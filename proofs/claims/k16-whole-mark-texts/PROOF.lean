import PyProof.Rows.All
import Wide.All
import OpenK.AllK
import Wide.FinOn
import HandS.ForMost
import HandS.ForExc
import HandS.Deep
import KE.KDictKeyed
import HandS.TupAny
import HandS.TupLe
import HandS.IsInst
import HandS.Style
import HandS.More
import HandS.HeadHook3
import KE.KDictDisplayH
import HandS.Iter
import HandS.TupLen
import KE.KExcIs
import KE.KDictCopyH
import HandS.SetFor
import KE.KDictZip
import HandS.Strs
import KE.SortData
import KE.KDictSum
import HandS.RaiseMore
import HandS.Replace
import HandS.Conv
import KE.KDictPairs
import KE.KEqDict
import HandS.TupSets
import PySem.Challenge.RW_heatclicks_k16_whole_mark_texts
set_option Elab.async false
set_option linter.all false
set_option maxRecDepth 100000
set_option maxHeartbeats 1000000
set_option autoImplicit false
/-! HC1: data by value (D), how the abstract heap bears them (Rp), the simulation (Sim) between a def's slots and an environment of data, and the lifted judgements. -/
namespace HC
open PySem PySem.Spec PyProof.Rows L2

/-! ### data -/
inductive D where
  | none
  | bool (b : Bool)
  | int (i : Int)
  | str (s : Str)
  | list (xs : List D)
  | tuple (xs : List D)
  | dict (kvs : List (NestedKey × D))
  | tdict (kvs : List (NestedKey × D))
  | exc (c : Addr)
  | kdict (kvs : List (NestedKey × D))

mutual
def keyD : NestedKey → D
  | .none => .none
  | .num i => .int i
  | .text x => .str x
  | .tup ks => .tuple (keysD ks)
def keysD : List NestedKey → List D
  | [] => []
  | k :: ks => keyD k :: keysD ks
end
mutual
/-- a value as a dict's key -/
def D.key : D → Option NestedKey
  | .none => some .none
  | .bool b => some (.num (if b = true then 1 else 0))
  | .int i => some (.num i)
  | .str x => some (.text x)
  | .tuple xs => (D.keys xs).map .tup
  | .list _ => Option.none
  | .dict _ => Option.none
  | .tdict _ => Option.none
  | .exc _ => Option.none
  | .kdict _ => Option.none
def D.keys : List D → Option (List NestedKey)
  | [] => some []
  | x :: xs => match D.key x, D.keys xs with
    | some k, some ks => some (k :: ks)
    | _, _ => Option.none
end
mutual
/-- a value as the library's data -/
def D.py : D → PyData
  | .none => .none
  | .bool b => .bool b
  | .int i => .int i
  | .str x => .str x
  | .list xs => .list (D.pys xs)
  | .tuple xs => .tuple (D.pys xs)
  | .dict _ => .dict []
  | .tdict _ => .dict []
  | .exc _ => .dict []
  | .kdict _ => .dict []
def D.pys : List D → List PyData
  | [] => []
  | x :: xs => D.py x :: D.pys xs
end
mutual
/-- no dict, no exception within -/
def D.plain : D → Bool
  | .none => true
  | .bool _ => true
  | .int _ => true
  | .str _ => true
  | .list xs => D.plains xs
  | .tuple xs => D.plains xs
  | .dict _ => false
  | .tdict _ => false
  | .exc _ => false
  | .kdict _ => false
def D.plains : List D → Bool
  | [] => true
  | x :: xs => D.plain x && D.plains xs
end

/-- the key of a dict of ints and texts -/
def kN : Key → NestedKey
  | .inl i => .num i
  | .inr x => .text x

/-- a tuple of the written part -/
def KTup (K : PySem.W.Frag) (a : Addr) (xs : List V) : Prop :=
  ∃ (o : Obj) (its : Array Value) (n : Nat), K.lookup a = some o ∧ o.cls = .type "tuple" ∧ o.data = .seq its n ∧ its.size ≤ sizeLine ∧ Vals xs its.toList
/-- a dict whose keys are tuples, known to the object -/
def dnO (a : Addr) (o : Obj) : HO := .ext fun h => h.get? a = some o
def DEnt (P : Program) (w : World) (a : Addr) (o : Obj) (xs : List (NestedKey × Addr × Value)) : Prop :=
  xs.length ≤ sizeLine ∧ (a == sysModules) = false ∧ o.ExactDict ∧ ∃ es ep, o.data = .dict es ep ∧ es.toList = xs.map (entryOfKey (nestedKind P w)) ∧ (xs.map (·.1)).Nodup ∧ ∀ x ∈ xs, x.1.depth ≤ 8
/-- an exception of a class of the program's own -/
def xcO (a c : Addr) : HO := .ext fun h => ∃ o vs, h.get? a = some o ∧ Zc (.ref c) Option.none o ∧ o.data = .fields vs

mutual
inductive Rp (K : PySem.W.Frag) (P : Program) (w : World) (M : Addr → Prop) (H : Hp) : V → D → Prop
  | non : Rp K P w M H .non .none
  | bl (b : Bool) : Rp K P w M H (.bl b) (.bool b)
  | int (i : Int) : Rp K P w M H (.int i) (.int i)
  | str (x : Str) : Rp K P w M H (.str x) (.str x)
  | lst {a : Addr} {xs : List V} {ds : List D} : ¬ M a → H a = some (.lst xs) → RpA K P w M H xs ds → Rp K P w M H (.ref a) (.list ds)
  | tup {a : Addr} {xs : List V} {ds : List D} : ¬ M a → H a = some (.tup xs) → RpA K P w M H xs ds → Rp K P w M H (.ref a) (.tuple ds)
  | ktup {a : Addr} {xs : List V} {ds : List D} : KTup K a xs → RpA K P w M H xs ds → Rp K P w M H (.ref a) (.tuple ds)
  | dctK {a : Addr} {kvs : List (Key × V)} {ds : List (NestedKey × D)} : ¬ M a → Rd H a (.dK kvs) → RpK K P w M H kvs ds → Rp K P w M H (.ref a) (.dict ds)
  | dctN {a : Addr} {o : Obj} {xs : List (NestedKey × Addr × Value)} {ds : List (NestedKey × D)} : ¬ M a → H a = some (dnO a o) → DEnt P w a o xs → RpN K P w M H xs ds → Rp K P w M H (.ref a) (.tdict ds)
  | exc {a c : Addr} : ¬ M a → H a = some (xcO a c) → Rp K P w M H (.ref a) (.exc c)
  | dctL {a : Addr} {o : Obj} {kvs : List (Key × V)} {ds : List (NestedKey × D)} : ¬ M a → H a = some (.frz o (.dK kvs)) → RpK K P w M H kvs ds → Rp K P w M H (.ref a) (.kdict ds)
inductive RpA (K : PySem.W.Frag) (P : Program) (w : World) (M : Addr → Prop) (H : Hp) : List V → List D → Prop
  | nil : RpA K P w M H [] []
  | cons {v : V} {vs : List V} {d : D} {ds : List D} : Rp K P w M H v d → RpA K P w M H vs ds → RpA K P w M H (v :: vs) (d :: ds)
inductive RpK (K : PySem.W.Frag) (P : Program) (w : World) (M : Addr → Prop) (H : Hp) : List (Key × V) → List (NestedKey × D) → Prop
  | nil : RpK K P w M H [] []
  | cons {k : Key} {v : V} {vs : List (Key × V)} {d : D} {ds : List (NestedKey × D)} : Rp K P w M H v d → RpK K P w M H vs ds → RpK K P w M H ((k, v) :: vs) ((kN k, d) :: ds)
inductive RpN (K : PySem.W.Frag) (P : Program) (w : World) (M : Addr → Prop) (H : Hp) : List (NestedKey × Addr × Value) → List (NestedKey × D) → Prop
  | nil : RpN K P w M H [] []
  | cons {k : NestedKey} {a : Addr} {v : V} {u : Value} {vs : List (NestedKey × Addr × Value)} {d : D} {ds : List (NestedKey × D)} : Rp K P w M H (.ref a) (keyD k) → RelV v u → Rp K P w M H v d → RpN K P w M H vs ds → RpN K P w M H ((k, a, u) :: vs) ((k, d) :: ds)
end
/-- the object at a, whatever M says of a itself -/
inductive Top (K : PySem.W.Frag) (P : Program) (w : World) (M : Addr → Prop) (H : Hp) (a : Addr) : D → Prop
  | lst {xs : List V} {ds : List D} : H a = some (.lst xs) → RpA K P w M H xs ds → Top K P w M H a (.list ds)
  | dctK {kvs : List (Key × V)} {ds : List (NestedKey × D)} : H a = some (.dK kvs) → RpK K P w M H kvs ds → Top K P w M H a (.dict ds)
  | dctN {o : Obj} {xs : List (NestedKey × Addr × Value)} {ds : List (NestedKey × D)} : H a = some (dnO a o) → DEnt P w a o xs → RpN K P w M H xs ds → Top K P w M H a (.tdict ds)

section
variable {K : PySem.W.Frag} {P : Program} {w : World} {M M' : Addr → Prop} {H H' : Hp}
/-- what is not M's is kept, and does not become M's -/
def Stp (M : Addr → Prop) (H : Hp) (M' : Addr → Prop) (H' : Hp) : Prop := ∀ a o, H a = some o → ¬ M a → H' a = some o ∧ ¬ M' a
mutual
theorem Rp.step (k : Stp M H M' H') : ∀ {v : V} {d : D}, Rp K P w M H v d → Rp K P w M' H' v d
  | _, _, .non => .non
  | _, _, .bl b => .bl b
  | _, _, .int i => .int i
  | _, _, .str x => .str x
  | _, _, .lst m h r => .lst (k _ _ h m).2 (k _ _ h m).1 (RpA.step k r)
  | _, _, .tup m h r => .tup (k _ _ h m).2 (k _ _ h m).1 (RpA.step k r)
  | _, _, .ktup h r => .ktup h (RpA.step k r)
  | _, _, .dctK m (.inl h) r => .dctK (k _ _ h m).2 (.inl (k _ _ h m).1) (RpK.step k r)
  | _, _, .dctK m (.inr ⟨o, h⟩) r => .dctK (k _ _ h m).2 (.inr ⟨o, (k _ _ h m).1⟩) (RpK.step k r)
  | _, _, .dctN m h e r => .dctN (k _ _ h m).2 (k _ _ h m).1 e (RpN.step k r)
  | _, _, .exc m h => .exc (k _ _ h m).2 (k _ _ h m).1
  | _, _, .dctL m h r => .dctL (k _ _ h m).2 (k _ _ h m).1 (RpK.step k r)
theorem RpA.step (k : Stp M H M' H') : ∀ {v : List V} {d : List D}, RpA K P w M H v d → RpA K P w M' H' v d
  | _, _, .nil => .nil
  | _, _, .cons a b => .cons (Rp.step k a) (RpA.step k b)
theorem RpK.step (k : Stp M H M' H') : ∀ {v : List (Key × V)} {d : List (NestedKey × D)}, RpK K P w M H v d → RpK K P w M' H' v d
  | _, _, .nil => .nil
  | _, _, .cons a b => .cons (Rp.step k a) (RpK.step k b)
theorem RpN.step (k : Stp M H M' H') : ∀ {v : List (NestedKey × Addr × Value)} {d : List (NestedKey × D)}, RpN K P w M H v d → RpN K P w M' H' v d
  | _, _, .nil => .nil
  | _, _, .cons a r b c => .cons (Rp.step k a) r (Rp.step k b) (RpN.step k c)
end
theorem Stp.refl : Stp M H M H := fun _ _ h m => ⟨h, m⟩
theorem Stp.trans {M2 : Addr → Prop} {H2 : Hp} (a : Stp M H M' H') (b : Stp M' H' M2 H2) : Stp M H M2 H2 := fun c o h m => b c o (a c o h m).1 (a c o h m).2
theorem Stp.less (h : ∀ a, M' a → M a) : Stp M H M' H := fun a o e m => ⟨e, fun x => m (h a x)⟩
theorem Rp.less {v : V} {d : D} (h : ∀ a, M' a → M a) (r : Rp K P w M H v d) : Rp K P w M' H v d := r.step (Stp.less h)
/-- the heap grows -/
theorem Stp.grow (h : Same H H') : Stp M H M H' := fun a o e m => ⟨h a o e, m⟩
theorem Top.step {a : Addr} {d : D} (k : Stp M H M' H') (e : ∀ o, H a = some o → H' a = some o) : Top K P w M H a d → Top K P w M' H' a d
  | .lst h r => .lst (e _ h) (r.step k)
  | .dctK h r => .dctK (e _ h) (r.step k)
  | .dctN h x r => .dctN (e _ h) x (r.step k)
/-- what is frozen from now on -/
theorem Top.rp {a : Addr} {d : D} (m : ¬ M a) : Top K P w M H a d → Rp K P w M H (.ref a) d
  | .lst h r => .lst m h r
  | .dctK h r => .dctK m (.inl h) r
  | .dctN h x r => .dctN m h x r
end

/-! ### the law's draws: a list [numbers, count], the numbers a list of ints -/
structure DrawsOk (H : Hp) (g n : Addr) : Prop where
  ok : ∃ (k : Int) (xs : List Int), H g = some (.lst [.ref n, .int k]) ∧ H n = some (.lst (xs.map V.int)) ∧ 0 < xs.length ∧ xs.length ≤ 63 ∧ 0 ≤ k

/-- objects whose own parts turn while they are used (memos): who is which object, what turns, what is true of it -/
structure Obj0 where
  is : Addr → D → Prop
  reg : Addr → Prop
  ok : (Addr → Prop) → Hp → Prop
  st : ∀ {M M' : Addr → Prop} {H H' : Hp}, Stp M H M' H' → (∀ a, reg a → H' a = H a) → ok M H → ok M' H'
  dm : ∀ {M : Addr → Prop} {H : Hp} {a : Addr}, ok M H → reg a → H a ≠ none
inductive Tk where
  | dr (g n : Addr)
  | ob (o : Obj0)
/-- what is fixed through a def's body -/
structure Ct where
  K : PySem.W.Frag
  P : Program
  w : World
  T : Option Tk
  M0 : Addr → Prop
  H0 : Hp
def Ct.inT (C : Ct) (a : Addr) : Prop := match C.T with
  | none => False
  | some (.dr g n) => a = g ∨ a = n
  | some (.ob o) => o.reg a
def Ct.tok (C : Ct) (M : Addr → Prop) (H : Hp) : Prop := match C.T with
  | none => True
  | some (.dr g n) => DrawsOk H g n
  | some (.ob o) => o.ok M H
theorem tok_step {C : Ct} {M M' : Addr → Prop} {H H' : Hp} (st : Stp M H M' H') (e : ∀ a, C.inT a → H' a = H a) (t : C.tok M H) : C.tok M' H' := by
  unfold Ct.tok at t ⊢
  unfold Ct.inT at e
  cases hT : C.T with
  | none => trivial
  | some p =>
    rw [hT] at t e
    cases p with
    | dr g n =>
      obtain ⟨k, xs, e1, e2, e3⟩ := t.ok
      exact ⟨k, xs, by rw [e g (.inl rfl)]; exact e1, by rw [e n (.inr rfl)]; exact e2, e3⟩
    | ob o => exact o.st st e t
/-- no objects -/
def Ct.NoOb (C : Ct) : Prop := ∀ o, C.T ≠ some (.ob o)
theorem tok_any {C : Ct} {M M' : Addr → Prop} {H : Hp} (nob : C.NoOb) (t : C.tok M H) : C.tok M' H := by
  unfold Ct.tok at t ⊢
  cases hT : C.T with
  | none => trivial
  | some p =>
    rw [hT] at t
    cases p with
    | dr g n => exact t
    | ob o => exact absurd hT (nob o)
theorem tok_dom {C : Ct} {M : Addr → Prop} {H : Hp} {a : Addr} (t : C.tok M H) (ht : C.inT a) : H a ≠ none := by
  unfold Ct.inT at ht
  unfold Ct.tok at t
  cases hT : C.T with
  | none => rw [hT] at ht; exact ht.elim
  | some p =>
    rw [hT] at ht t
    cases p with
    | dr g n =>
      obtain ⟨kk, xs, e1, e2, _⟩ := t.ok
      rcases ht with rfl | rfl
      · rw [e1]; simp
      · rw [e2]; simp
    | ob o => exact o.dm t ht
/-- all but the draws is kept -/
def Ct.Ex (C : Ct) (H H' : Hp) : Prop := ∀ a o, ¬ C.inT a → H a = some o → H' a = some o
theorem Ct.Ex.refl {C : Ct} {H : Hp} : C.Ex H H := fun _ _ _ h => h
theorem Ct.Ex.trans {C : Ct} {H H1 H2 : Hp} (a : C.Ex H H1) (b : C.Ex H1 H2) : C.Ex H H2 := fun c o n h => b c o n (a c o n h)
theorem Same.ex {C : Ct} {H H' : Hp} (h : Same H H') : C.Ex H H' := fun a o _ e => h a o e
structure Base (C : Ct) (M : Addr → Prop) (H : Hp) : Prop where
  keep : C.Ex C.H0 H
  tok : C.tok M H
theorem Base.to {C : Ct} {M M' : Addr → Prop} {H : Hp} (b : Base C M H) (st : Stp M H M' H) : Base C M' H := ⟨b.keep, tok_step st (fun _ _ => rfl) b.tok⟩
abbrev Ct.Rp (C : Ct) (M : Addr → Prop) (H : Hp) (v : V) (d : D) : Prop := HC.Rp C.K C.P C.w M H v d
abbrev Ct.RpA (C : Ct) (M : Addr → Prop) (H : Hp) (v : List V) (d : List D) : Prop := HC.RpA C.K C.P C.w M H v d
abbrev Ct.Top (C : Ct) (M : Addr → Prop) (H : Hp) (a : Addr) (d : D) : Prop := HC.Top C.K C.P C.w M H a d
/-- a value that is only looked at -/
def Ct.Rq (C : Ct) (M : Addr → Prop) (H : Hp) (v : V) (d : D) : Prop := C.Rp M H v d ∨ ∃ a, v = .ref a ∧ ¬ C.inT a ∧ C.Top M H a d
theorem Rp.q {C : Ct} {M : Addr → Prop} {H : Hp} {v : V} {d : D} (h : C.Rp M H v d) : C.Rq M H v d := .inl h

/-! ### a slot's content -/
inductive Sl where
  | un
  | val (d : D)
  | own (d : D)
  | tok
  | obj (d : D)
abbrev Env := List Sl

/-- where the draws, or an object, stand -/
def TkAt (C : Ct) : Sl → Option (Option V) → Prop
  | .tok, v => ∃ g n, C.T = some (.dr g n) ∧ v = some (some (.ref g))
  | .obj d, v => ∃ o e, C.T = some (.ob o) ∧ v = some (some (.ref e)) ∧ o.is e d
  | _, _ => True
structure Sim (C : Ct) (M : Addr → Prop) (r : Env) (σ : L2.St) (H : Hp) : Prop where
  len : σ.length = r.length
  val : ∀ (i : Nat) (d : D), r[i]? = some (.val d) → ∃ v, σ[i]? = some (some v) ∧ C.Rp M H v d
  own : ∀ (i : Nat) (d : D), r[i]? = some (.own d) → ∃ a, σ[i]? = some (some (.ref a)) ∧ M a ∧ C.H0 a = none ∧ ¬ C.M0 a ∧ C.Top M H a d
  sep : ∀ (i j : Nat) (d e : D) (a : Addr), r[i]? = some (.own d) → r[j]? = some (.own e) → σ[i]? = some (some (.ref a)) → σ[j]? = some (some (.ref a)) → i = j
  tk : ∀ {x : Sl} (i : Nat), r[i]? = some x → TkAt C x (σ[i]?)
  base : Base C M H
  m0 : ∀ a, C.M0 a → M a
  dom : ∀ a, M a → H a ≠ none
  inm : ∀ a, C.inT a → C.M0 a
section
variable {C : Ct} {M M' : Addr → Prop} {r : Env} {σ : L2.St} {H H' : Hp}
theorem Sim.tm (S : Sim C M r σ H) {a : Addr} (h : C.inT a) : M a := S.m0 a (S.inm a h)
theorem Sim.stp (S : Sim C M r σ H) (k : C.Ex H H') : Stp M H M H' := fun a o e m => ⟨k a o (fun t => m (S.tm t)) e, m⟩
/-- the heap grows (the draws may turn) -/
theorem Sim.grow (S : Sim C M r σ H) (k : C.Ex H H') (t : C.tok M H') : Sim C M r σ H' where
  len := S.len
  val := fun i d e => let ⟨v, h1, h2⟩ := S.val i d e; ⟨v, h1, h2.step (S.stp k)⟩
  own := fun i d e => by
    obtain ⟨a, h1, h2, h3, h4, h5⟩ := S.own i d e
    exact ⟨a, h1, h2, h3, h4, h5.step (S.stp k) fun o q => k a o (fun t => h4 (S.inm a t)) q⟩
  sep := S.sep
  tk := S.tk
  base := ⟨S.base.keep.trans k, t⟩
  m0 := S.m0
  dom := fun a m z => by
    by_cases ht : C.inT a
    · exact tok_dom t ht z
    · cases q : H a with
      | none => exact S.dom a m q
      | some o => rw [k a o ht q] at z; cases z
  inm := S.inm
theorem Sim.reg (S : Sim C M r σ H) (k : Same H H') : ∀ a, C.inT a → H' a = H a := fun a ht => by
  cases q : H a with
  | none => exact absurd q (tok_dom S.base.tok ht)
  | some o => exact k a o q
theorem Sim.same (S : Sim C M r σ H) (k : Same H H') : Sim C M r σ H' := S.grow (Same.ex k) (tok_step (Stp.grow k) (S.reg k) S.base.tok)
theorem Sim.rq (S : Sim C M r σ H) (k : C.Ex H H') {v : V} {d : D} (h : C.Rq M H v d) : C.Rq M H' v d := by
  rcases h with h | ⟨a, e, n, h⟩
  · exact .inl (h.step (S.stp k))
  · exact .inr ⟨a, e, n, h.step (S.stp k) fun o q => k a o n q⟩
theorem Sim.rp (S : Sim C M r σ H) (k : C.Ex H H') {v : V} {d : D} (h : C.Rp M H v d) : C.Rp M H' v d := h.step (S.stp k)
theorem Sim.fresh (S : Sim C M r σ H) {p : Addr} (h : H p = none) : ¬ M p := fun m => S.dom p m h
end
theorem same_upd {H : Hp} {p : Addr} {o : HO} (h : H p = none) : Same H (upd H p o) := fun b x e => by
  rw [upd_ne (ne_of_none e h)]
  exact e

/-! ### expressions: what is asked of an environment -/
abbrev TP := Env → (D → Prop) → (Addr → Prop) → Prop
abbrev XW := L2.St → XK
structure Mono (t : TP) : Prop where
  imp : ∀ {r : Env} {Q Q' : D → Prop} {E E' : Addr → Prop}, (∀ d, Q d → Q' d) → (∀ c, E c → E' c) → t r Q E → t r Q' E'
/-- the wish about exceptions is met -/
def Wish (C : Ct) (W : XW) (M : Addr → Prop) (r : Env) (σ : L2.St) (H : Hp) (E : Addr → Prop) : Prop := ∀ c H', C.Ex H H' → Sim C M r σ H' → E c → W σ (.ref c) Option.none H'
theorem Wish.mono {C : Ct} {W : XW} {M : Addr → Prop} {r : Env} {σ : L2.St} {H H1 : Hp} {E : Addr → Prop} (h : Wish C W M r σ H E) (k : C.Ex H H1) : Wish C W M r σ H1 E := fun c H' k' S q => h c H' (k.trans k') S q
/-- looked at -/
def lP (C : Ct) (W : XW) (t : TP) : TE := fun σ H Q => ∃ M r E, Sim C M r σ H ∧ Wish C W M r σ H E ∧ t r (fun d => ∀ v H', C.Ex H H' → Sim C M r σ H' → C.Rq M H' v d → Q v H') E
/-- kept -/
def lV (C : Ct) (W : XW) (t : TP) : TE := fun σ H Q => ∃ M r E, Sim C M r σ H ∧ Wish C W M r σ H E ∧ t r (fun d => ∀ v H', C.Ex H H' → Sim C M r σ H' → C.Rp M H' v d → Q v H') E

theorem _root_.L2.PE.imp {X : Cx} {e : Expr} {t t' : TE} (h : PE X e t) (hi : ∀ σ H Q, t' σ H Q → t σ H Q) : PE X e t' := ⟨fun pins s σ H Q I q => h.run pins s σ H Q I (hi _ _ _ q)⟩
theorem _root_.L2.PT.imp {X : Cx} {e : Expr} {t t' : TT} (h : PT X e t) (hi : ∀ σ H Q, t' σ H Q → t σ H Q) : PT X e t' := ⟨fun pins s σ H Q I q => h.run pins s σ H Q I (hi _ _ _ q)⟩
theorem _root_.L2.PA.imp {X : Cx} {e : List Expr} {t t' : TA} (h : PA X e t) (hi : ∀ σ H Q, t' σ H Q → t σ H Q) : PA X e t' := ⟨fun pos pins s σ H Q I q => h.run pos pins s σ H Q I (hi _ _ _ q)⟩
theorem _root_.L2.PS.imp {X : Cx} {e : Stmt} {t t' : TS} (h : PS X e t) (hi : ∀ D σ H, t' D σ H → t D σ H) : PS X e t' := ⟨fun pins s σ H Q I q => h.run pins s σ H Q I (hi _ _ _ q)⟩
theorem _root_.L2.PSs.imp {X : Cx} {e : List Stmt} {t t' : TS} (h : PSs X e t) (hi : ∀ D σ H, t' D σ H → t D σ H) : PSs X e t' := ⟨fun pins s σ H Q I q => h.run pins s σ H Q I (hi _ _ _ q)⟩
theorem _root_.L2.PG.imp {X : Cx} {e : Expr} {t t' : TG} (h : PG X e t) (hi : ∀ v σ H Q, t' v σ H Q → t v σ H Q) : PG X e t' := ⟨fun pins s σ H v u Q I r q => h.run pins s σ H v u Q I r (hi _ _ _ _ q)⟩
theorem _root_.L2.PI.imp {X : Cx} {tg e : Expr} {t t' : TI} (h : PI X tg e t) (hi : ∀ σ H Q, t' σ H Q → t σ H Q) : PI X tg e t' := ⟨fun pins s σ H Q I q => h.run pins s σ H Q I (hi _ _ _ q)⟩
theorem _root_.L2.OpR.imp {X : Cx} {f : Value → Value → Sem Value} {r r' : R2} (h : OpR X f r) (hi : ∀ x y H Q, r' x y H Q → r x y H Q) : OpR X f r' := fun pins s σ H x y v u Q I rx ry q => h pins s σ H x y v u Q I rx ry (hi _ _ _ _ q)
theorem _root_.L2.CallR.imp {X : Cx} {f : Value} {r r' : List V → Hp → VK → Prop} (h : CallR X f r) (hi : ∀ x H Q, r' x H Q → r x H Q) : CallR X f r' := fun pins s σ H x v Q I rx q => h pins s σ H x v Q I rx (hi _ _ _ q)

/-- an expression whose value is looked at; .. kept -/
structure DE (X : Cx) (C : Ct) (W : XW) (e : Expr) (t : TP) : Prop where
  pe : PE X e (lP C W t)
  mo : Mono t
structure DV (X : Cx) (C : Ct) (W : XW) (e : Expr) (t : TP) : Prop where
  pe : PE X e (lV C W t)
  mo : Mono t
section
variable {X : Cx} {C : Ct} {W : XW} {e : Expr} {t : TP}
theorem DV.q (h : DV X C W e t) : DE X C W e t := ⟨h.pe.imp fun σ H Q ⟨M, r, E, S, w, q⟩ => ⟨M, r, E, S, w, h.mo.imp (fun d k v H' x S' p => k v H' x S' p.q) (fun _ z => z) q⟩, h.mo⟩
end
end HC
/-! HC2: expressions over data. -/
namespace HC
open PySem PySem.Spec PyProof.Rows L2

/-- the context's written part, program and world are the frame's -/
structure Fit (X : Cx) (C : Ct) : Prop where
  k : X.K = C.K
  p : X.prog = C.P
  w : X.w = C.w

section
variable {K : PySem.W.Frag} {P : Program} {w : World} {M : Addr → Prop} {H : Hp}
theorem RpA.length : ∀ {vs : List V} {ds : List D}, RpA K P w M H vs ds → vs.length = ds.length
  | _, _, .nil => rfl
  | _, _, .cons _ r => congrArg (· + 1) r.length
theorem RpA.get : ∀ {vs : List V} {ds : List D} {i : Nat} {d : D}, RpA K P w M H vs ds → ds[i]? = some d → ∃ v, vs[i]? = some v ∧ Rp K P w M H v d
  | _, _, _, _, .nil, e => by simp at e
  | _, _, 0, _, .cons a _, e => by simp at e; subst e; exact ⟨_, rfl, a⟩
  | _, _, i + 1, d, .cons _ r, e => by simpa using RpA.get (i := i) (d := d) r (by simpa using e)
theorem RpA.getV : ∀ {vs : List V} {ds : List D} {i : Nat} {v : V}, RpA K P w M H vs ds → vs[i]? = some v → ∃ d, ds[i]? = some d ∧ Rp K P w M H v d
  | _, _, _, _, .nil, e => by simp at e
  | _, _, 0, _, .cons a _, e => by simp at e; subst e; exact ⟨_, rfl, a⟩
  | _, _, i + 1, d, .cons _ r, e => by simpa using RpA.getV (i := i) (v := d) r (by simpa using e)
theorem RpA.append : ∀ {vs : List V} {ds : List D} {vs' : List V} {ds' : List D}, RpA K P w M H vs ds → RpA K P w M H vs' ds' → RpA K P w M H (vs ++ vs') (ds ++ ds')
  | _, _, _, _, .nil, s => s
  | _, _, _, _, .cons a r, s => .cons a (RpA.append r s)
theorem RpA.take : ∀ {vs : List V} {ds : List D} (n : Nat), RpA K P w M H vs ds → RpA K P w M H (vs.take n) (ds.take n)
  | _, _, 0, _ => .nil
  | _, _, _ + 1, .nil => .nil
  | _, _, n + 1, .cons a r => .cons a (RpA.take n r)
theorem RpA.drop : ∀ {vs : List V} {ds : List D} (n : Nat), RpA K P w M H vs ds → RpA K P w M H (vs.drop n) (ds.drop n)
  | _, _, 0, r => r
  | _, _, _ + 1, .nil => .nil
  | _, _, n + 1, .cons _ r => RpA.drop n r
theorem RpA.set {v : V} {d : D} (h : Rp K P w M H v d) : ∀ {vs : List V} {ds : List D} (n : Nat), RpA K P w M H vs ds → RpA K P w M H (vs.set n v) (ds.set n d)
  | _, _, _, .nil => .nil
  | _, _, 0, .cons _ r => .cons h r
  | _, _, n + 1, .cons a r => .cons a (RpA.set h n r)
theorem RpA.reverse {vs : List V} {ds : List D} (h : RpA K P w M H vs ds) : RpA K P w M H vs.reverse ds.reverse := by
  induction vs generalizing ds with
  | nil => cases h; exact .nil
  | cons v r ih =>
    cases h with
    | cons a b => rw [List.reverse_cons, List.reverse_cons]; exact (ih b).append (.cons a .nil)
theorem RpA.dropLast : ∀ {vs : List V} {ds : List D}, RpA K P w M H vs ds → RpA K P w M H vs.dropLast ds.dropLast
  | _, _, .nil => .nil
  | _, _, .cons _ .nil => .nil
  | _, _, .cons a (.cons b r) => .cons a (RpA.dropLast (.cons b r))
theorem RpA.rep {vs : List V} {ds : List D} (h : RpA K P w M H vs ds) : ∀ k : Nat, RpA K P w M H (List.replicate k vs).flatten (List.replicate k ds).flatten
  | 0 => .nil
  | k + 1 => by rw [List.replicate_succ, List.replicate_succ, List.flatten_cons, List.flatten_cons]; exact h.append (RpA.rep h k)
theorem RpA.nil_iff {vs : List V} {ds : List D} (h : RpA K P w M H vs ds) : vs = [] ↔ ds = [] := by
  cases h with
  | nil => simp
  | cons _ _ => simp
/-- a slice -/
def cutL {α : Type} (xs : List α) (lo hi : Option Int) : List α := (xs.drop (HT.sIx xs.length 0 lo)).take (HT.sIx xs.length xs.length hi - HT.sIx xs.length 0 lo)
theorem RpA.cut {vs : List V} {ds : List D} (h : RpA K P w M H vs ds) (lo hi : Option Int) : RpA K P w M H (cutV vs lo hi) (cutL ds lo hi) := by
  unfold cutV cutL
  rw [h.length]
  exact (h.drop _).take _
theorem RpA.at {vs : List V} {ds : List D} (h : RpA K P w M H vs ds) {i : Int} {d : D} (e : atI ds i = some d) : ∃ v, atI vs i = some v ∧ Rp K P w M H v d := by
  unfold atI at e ⊢
  rw [h.length]
  cases q : ixN ds.length i with
  | none => rw [q] at e; cases e
  | some j =>
    rw [q] at e
    obtain ⟨v, h1, h2⟩ := h.get (show ds[j]? = some d from e)
    exact ⟨v, h1, h2⟩
/-- lists and tuples as they are read -/
theorem Rp.sqT {a : Addr} {ds : List D} (h : Rp K P w M H (.ref a) (.tuple ds)) : ∃ xs, SqT K H a xs ∧ RpA K P w M H xs ds := by
  cases h with
  | tup _ e r => exact ⟨_, SqT.of e, r⟩
  | ktup e r => exact ⟨_, .inr e, r⟩
theorem Rp.tupRef {v : V} {ds : List D} (h : Rp K P w M H v (.tuple ds)) : ∃ a, v = .ref a := by
  cases h with
  | tup _ e r => exact ⟨_, rfl⟩
  | ktup e r => exact ⟨_, rfl⟩
end
section
variable {C : Ct} {M : Addr → Prop} {H H' : Hp} {v : V}
theorem Ct.Rq.int {i : Int} (h : C.Rq M H v (.int i)) : v = .int i := by
  rcases h with h | ⟨a, _, _, h⟩
  · cases h; rfl
  · cases h
theorem Ct.Rq.bl {i : Bool} (h : C.Rq M H v (.bool i)) : v = .bl i := by
  rcases h with h | ⟨a, _, _, h⟩
  · cases h; rfl
  · cases h
theorem Ct.Rq.str {i : Str} (h : C.Rq M H v (.str i)) : v = .str i := by
  rcases h with h | ⟨a, _, _, h⟩
  · cases h; rfl
  · cases h
theorem Ct.Rq.non (h : C.Rq M H v .none) : v = .non := by
  rcases h with h | ⟨a, _, _, h⟩
  · cases h; rfl
  · cases h
theorem Ct.Rq.lst {ds : List D} (h : C.Rq M H v (.list ds)) : ∃ a xs, v = .ref a ∧ H a = some (.lst xs) ∧ C.RpA M H xs ds := by
  rcases h with h | ⟨a, e, _, h⟩
  · cases h with
    | lst _ e r => exact ⟨_, _, rfl, e, r⟩
  · cases h with
    | lst q r => exact ⟨a, _, e, q, r⟩
theorem Ct.Rq.tup {ds : List D} (h : C.Rq M H v (.tuple ds)) : ∃ a xs, v = .ref a ∧ SqT C.K H a xs ∧ C.RpA M H xs ds := by
  rcases h with h | ⟨a, e, _, h⟩
  · obtain ⟨a, rfl⟩ := h.tupRef
    obtain ⟨xs, h1, h2⟩ := h.sqT
    exact ⟨a, xs, rfl, h1, h2⟩
  · cases h
theorem Ct.Rq.tupRp {ds : List D} (h : C.Rq M H v (.tuple ds)) : C.Rp M H v (.tuple ds) := by
  rcases h with h | ⟨a, e, _, h⟩
  · exact h
  · cases h
end
/-- every M stands -/
def Dom (M : Addr → Prop) (H : Hp) : Prop := ∀ a, M a → H a ≠ none
theorem Dom.fresh {M : Addr → Prop} {H : Hp} (h : Dom M H) {p : Addr} (e : H p = none) : ¬ M p := fun m => h p m e

/-! ### operators by values -/
abbrev B2 := D → D → (D → Prop) → Prop
structure Mo2 (f : B2) : Prop where
  imp : ∀ {x y : D} {Q Q' : D → Prop}, (∀ d, Q d → Q' d) → f x y Q → f x y Q'
def rD2 (C : Ct) (f : B2) : R2 := fun x y H Q => ∃ M d1 d2, C.Rq M H x d1 ∧ C.Rq M H y d2 ∧ Dom M H ∧ f d1 d2 fun d => ∀ v H', Same H H' → C.Rp M H' v d → Q v H'
structure Op2 (X : Cx) (C : Ct) (sem : Value → Value → Sem Value) (f : B2) : Prop where
  ok : OpR X sem (rD2 C f)
  mo : Mo2 f
def wOp2 (f : B2) (ta tb : TP) : TP := fun r Q E => ta r (fun x => tb r (fun y => f x y Q) E) E
section
variable {X : Cx} {C : Ct} {W : XW} {a b c : Expr} {ta tb tc : TP} {pos : Pos}
theorem mono_op2 {f : B2} (hf : Mo2 f) (ha : Mono ta) (hb : Mono tb) : Mono (wOp2 f ta tb) := ⟨fun hq he h => ha.imp (fun x h1 => hb.imp (fun y h2 => hf.imp hq h2) he h1) he h⟩
theorem run_op2 {f : B2} (ha : DE X C W a ta) (hb : DE X C W b tb) {σ : L2.St} {H : Hp} {Q : VK} (h : lV C W (wOp2 f ta tb) σ H Q) (hf : Mo2 f) : lP C W ta σ H fun x H1 => lP C W tb σ H1 fun y H2 => rD2 C f x y H2 Q := by
  obtain ⟨M, r, E, S, hW, q⟩ := h
  refine ⟨M, r, E, S, hW, ha.mo.imp (fun x q1 v1 H1 k1 S1 p1 => ⟨M, r, E, S1, hW.mono k1, hb.mo.imp (fun y q2 v2 H2 k2 S2 p2 => ?_) (fun _ z => z) q1⟩) (fun _ z => z) q⟩
  exact ⟨M, x, y, S1.rq k2 p1, p2, S2.dom, hf.imp (fun d k v H' s p => k v H' (k1.trans (k2.trans (Same.ex s))) (S2.same s) p) q2⟩
theorem dv_op {op : Operator} {f : B2} (ho : Op2 X C (binaryOp op) f) (ha : DE X C W a ta) (hb : DE X C W b tb) : DV X C W (.BinOp a op b pos) (wOp2 f ta tb) :=
  ⟨(pe_op ho.ok ha.pe hb.pe).imp fun σ H Q h => run_op2 ha hb h ho.mo, mono_op2 ho.mo ha.mo hb.mo⟩
theorem dv_cmp {op : CmpOp} {f : B2} (ho : Op2 X C (compareOp op) f) (ha : DE X C W a ta) (hb : DE X C W b tb) (hm : behindInMarks op b = false := by first | exact nomark _ (by decide) (by decide) | rfl) : DV X C W (.Compare a [op] [b] pos) (wOp2 f ta tb) :=
  ⟨(pe_cmpR ho.ok ha.pe hb.pe hm).imp fun σ H Q h => run_op2 ha hb h ho.mo, mono_op2 ho.mo ha.mo hb.mo⟩
/-- a < b < c -/
def wChain (f g : B2) (ta tb tc : TP) : TP := fun r Q E => ta r (fun x => tb r (fun y => f x y fun z => match z with
  | .bool k => if k = true then tc r (fun u => g y u Q) E else Q (.bool false)
  | _ => False) E) E
theorem mono_chain {f g : B2} (hf : Mo2 f) (hg : Mo2 g) (ha : Mono ta) (hb : Mono tb) (hc : Mono tc) : Mono (wChain f g ta tb tc) := ⟨fun {r Q Q' E E'} hq he h => ha.imp (fun x h1 => hb.imp (fun y h2 => hf.imp (fun z h3 => by
  cases z with
  | bool k =>
    cases k with
    | true => exact hc.imp (fun u h4 => hg.imp hq h4) he h3
    | false => exact hq _ h3
  | _ => exact h3) h2) he h1) he h⟩
end

/-! ### the operators -/
section
variable {X : Cx} {C : Ct}
theorem fit_cases {motive : Ct → Prop} (h : ∀ T M0 H0, motive ⟨X.K, X.prog, X.w, T, M0, H0⟩) : ∀ C, Fit X C → motive C := fun ⟨K, P, w, T, M0, H0⟩ ⟨a, b, c⟩ => by
  cases a; cases b; cases c; exact h T M0 H0
def fAdd : B2
  | .int a, .int b, Q => Q (.int (a + b))
  | .str a, .str b, Q => a.length + b.length ≤ sizeLine ∧ Q (.str (a ++ b))
  | .list a, .list b, Q => a.length + b.length ≤ sizeLine ∧ Q (.list (a ++ b))
  | .tuple a, .tuple b, Q => a.length + b.length ≤ sizeLine ∧ Q (.tuple (a ++ b))
  | _, _, _ => False
theorem mo_add : Mo2 fAdd := by
  refine ⟨fun {x y Q Q'} hq h => ?_⟩
  unfold fAdd at h ⊢
  split at h <;> first | exact hq _ h | exact ⟨h.1, hq _ h.2⟩ | exact h
theorem Same.refl' {H : Hp} : Same H H := Same.refl H
theorem op_addD (F : Fit X C) : Op2 X C (binaryOp .Add) fAdd := by
  refine ⟨?_, mo_add⟩
  refine fit_cases (X := X) (motive := fun C => OpR X (binaryOp .Add) (rD2 C fAdd)) (fun T M0 H0 => ?_) C F
  refine ((op_add.or op_add_str).or (op_cat.or op_catA)).imp fun x y H Q ⟨M, d1, d2, r1, r2, dm, h⟩ => ?_
  unfold fAdd at h
  split at h
  · exact .inl (.inl ⟨_, _, r1.int, r2.int, h _ _ Same.refl' (.int _)⟩)
  · exact .inl (.inr ⟨_, _, r1.str, r2.str, h.1, h.2 _ _ Same.refl' (.str _)⟩)
  · obtain ⟨l, xs, rfl, e1, p1⟩ := r1.lst
    obtain ⟨l2, xs2, rfl, e2, p2⟩ := r2.lst
    refine .inr (.inl ⟨l, l2, xs, xs2, rfl, rfl, e1, e2, by rw [p1.length, p2.length]; exact h.1, fun p hp => h.2 _ _ (same_upd hp) (.lst (dm.fresh hp) upd_same ?_)⟩)
    exact (p1.append p2).step (Stp.grow (same_upd hp))
  · obtain ⟨l, xs, rfl, e1, p1⟩ := r1.tup
    obtain ⟨l2, xs2, rfl, e2, p2⟩ := r2.tup
    refine .inr (.inr ⟨l, l2, xs, xs2, rfl, rfl, e1, e2, by rw [p1.length, p2.length]; exact h.1, fun ex => ?_, fun _ ey => ?_, fun _ _ p hp => h.2 _ _ (same_upd hp) (.tup (dm.fresh hp) upd_same ?_)⟩)
    · subst ex
      cases p1
      exact h.2 _ _ Same.refl' r2.tupRp
    · subst ey
      cases p2
      have z := h.2 (.ref l) H Same.refl'
      rw [List.append_nil] at z
      exact z r1.tupRp
    · exact (p1.append p2).step (Stp.grow (same_upd hp))
  · exact h.elim
def fSub : B2
  | .int a, .int b, Q => Q (.int (a - b))
  | _, _, _ => False
theorem mo_sub : Mo2 fSub := by
  refine ⟨fun {x y Q Q'} hq h => ?_⟩
  unfold fSub at h ⊢
  split at h <;> first | exact hq _ h | exact h
theorem op_subD (F : Fit X C) : Op2 X C (binaryOp .Sub) fSub := by
  refine ⟨op_sub.imp fun x y H Q ⟨M, d1, d2, r1, r2, dm, h⟩ => ?_, mo_sub⟩
  unfold fSub at h
  split at h
  · exact ⟨_, _, r1.int, r2.int, h _ _ Same.refl' (.int _)⟩
  · exact h.elim
def fMul : B2
  | .int a, .int b, Q => CMul a b ∧ Q (.int (a * b))
  | .list a, .int b, Q => (-(2 ^ 63) ≤ b ∧ b < 2 ^ 63 ∧ a.length * b.toNat ≤ sizeLine) ∧ Q (.list (List.replicate b.toNat a).flatten)
  | _, _, _ => False
theorem mo_mul : Mo2 fMul := by
  refine ⟨fun {x y Q Q'} hq h => ?_⟩
  unfold fMul at h ⊢
  split at h <;> first | exact ⟨h.1, hq _ h.2⟩ | exact h
theorem op_mulD (F : Fit X C) : Op2 X C (binaryOp .Mult) fMul := by
  refine ⟨(op_mul.or op_rep).imp fun x y H Q ⟨M, d1, d2, r1, r2, dm, h⟩ => ?_, mo_mul⟩
  unfold fMul at h
  split at h
  · exact .inl ⟨_, _, r1.int, r2.int, h.1, h.2 _ _ Same.refl' (.int _)⟩
  · obtain ⟨l, xs, rfl, e1, p1⟩ := r1.lst
    obtain ⟨⟨h1, h2, h3⟩, h⟩ := h
    refine .inr ⟨l, _, xs, rfl, r2.int, e1, h1, h2, by rw [p1.length]; exact h3, fun p hp => h _ _ (same_upd hp) (.lst (dm.fresh hp) upd_same ?_)⟩
    exact (p1.rep _).step (Stp.grow (same_upd hp))
  · exact h.elim
def fDiv : B2
  | .int a, .int b, Q => CDiv a b ∧ Q (.int (a / b))
  | _, _, _ => False
theorem mo_div : Mo2 fDiv := by
  refine ⟨fun {x y Q Q'} hq h => ?_⟩
  unfold fDiv at h ⊢
  split at h <;> first | exact ⟨h.1, hq _ h.2⟩ | exact h
theorem op_divD (F : Fit X C) : Op2 X C (binaryOp .FloorDiv) fDiv := by
  refine ⟨op_fdiv.imp fun x y H Q ⟨M, d1, d2, r1, r2, dm, h⟩ => ?_, mo_div⟩
  unfold fDiv at h
  split at h
  · exact ⟨_, _, r1.int, r2.int, h.1, h.2 _ _ Same.refl' (.int _)⟩
  · exact h.elim
def fMod : B2
  | .int a, .int b, Q => 0 < b ∧ Q (.int (a % b))
  | _, _, _ => False
theorem mo_mod : Mo2 fMod := by
  refine ⟨fun {x y Q Q'} hq h => ?_⟩
  unfold fMod at h ⊢
  split at h <;> first | exact ⟨h.1, hq _ h.2⟩ | exact h
theorem op_modD (F : Fit X C) : Op2 X C (binaryOp .Mod) fMod := by
  refine ⟨op_mod.imp fun x y H Q ⟨M, d1, d2, r1, r2, dm, h⟩ => ?_, mo_mod⟩
  unfold fMod at h
  split at h
  · exact ⟨_, _, r1.int, r2.int, h.1, h.2 _ _ Same.refl' (.int _)⟩
  · exact h.elim
def fPow : B2
  | .int a, .int b, Q => CPow a b ∧ Q (.int (a ^ b.toNat))
  | _, _, _ => False
theorem mo_pow : Mo2 fPow := by
  refine ⟨fun {x y Q Q'} hq h => ?_⟩
  unfold fPow at h ⊢
  split at h <;> first | exact ⟨h.1, hq _ h.2⟩ | exact h
theorem op_powD (F : Fit X C) : Op2 X C (binaryOp .Pow) fPow := by
  refine ⟨op_pow.imp fun x y H Q ⟨M, d1, d2, r1, r2, dm, h⟩ => ?_, mo_pow⟩
  unfold fPow at h
  split at h
  · exact ⟨_, _, r1.int, r2.int, h.1, h.2 _ _ Same.refl' (.int _)⟩
  · exact h.elim
/-! order of ints -/
def fLt : B2
  | .int a, .int b, Q => Q (.bool (decide (a < b)))
  | _, _, _ => False
def fLe : B2
  | .int a, .int b, Q => Q (.bool (decide (a ≤ b)))
  | _, _, _ => False
def fGt : B2
  | .int a, .int b, Q => Q (.bool (decide (b < a)))
  | _, _, _ => False
def fGe : B2
  | .int a, .int b, Q => Q (.bool (decide (b ≤ a)))
  | _, _, _ => False
theorem mo_lt : Mo2 fLt := by
  refine ⟨fun {x y Q Q'} hq h => ?_⟩
  unfold fLt at h ⊢
  split at h <;> first | exact hq _ h | exact h
theorem mo_le : Mo2 fLe := by
  refine ⟨fun {x y Q Q'} hq h => ?_⟩
  unfold fLe at h ⊢
  split at h <;> first | exact hq _ h | exact h
theorem mo_gt : Mo2 fGt := by
  refine ⟨fun {x y Q Q'} hq h => ?_⟩
  unfold fGt at h ⊢
  split at h <;> first | exact hq _ h | exact h
theorem mo_ge : Mo2 fGe := by
  refine ⟨fun {x y Q Q'} hq h => ?_⟩
  unfold fGe at h ⊢
  split at h <;> first | exact hq _ h | exact h
theorem op_ltD (F : Fit X C) : Op2 X C (compareOp .Lt) fLt := by
  refine ⟨op_lt.imp fun x y H Q ⟨M, d1, d2, r1, r2, dm, h⟩ => ?_, mo_lt⟩
  unfold fLt at h
  split at h
  · exact ⟨_, _, r1.int, r2.int, h _ _ Same.refl' (.bl _)⟩
  · exact h.elim
theorem op_leD (F : Fit X C) : Op2 X C (compareOp .LtE) fLe := by
  refine ⟨op_le.imp fun x y H Q ⟨M, d1, d2, r1, r2, dm, h⟩ => ?_, mo_le⟩
  unfold fLe at h
  split at h
  · exact ⟨_, _, r1.int, r2.int, h _ _ Same.refl' (.bl _)⟩
  · exact h.elim
theorem op_gtD (F : Fit X C) : Op2 X C (compareOp .Gt) fGt := by
  refine ⟨op_gt.imp fun x y H Q ⟨M, d1, d2, r1, r2, dm, h⟩ => ?_, mo_gt⟩
  unfold fGt at h
  split at h
  · exact ⟨_, _, r1.int, r2.int, h _ _ Same.refl' (.bl _)⟩
  · exact h.elim
theorem op_geD (F : Fit X C) : Op2 X C (compareOp .GtE) fGe := by
  refine ⟨op_ge.imp fun x y H Q ⟨M, d1, d2, r1, r2, dm, h⟩ => ?_, mo_ge⟩
  unfold fGe at h
  split at h
  · exact ⟨_, _, r1.int, r2.int, h _ _ Same.refl' (.bl _)⟩
  · exact h.elim
end
end HC
/-! HC3: ==, in, is; tests; names, constants, arguments, displays, subscripts. -/
namespace HC
open PySem PySem.Spec PyProof.Rows L2

/-! ### equality of plain data -/
def deq (x y : D) : Bool := PyData.eqv x.py y.py
structure D.sh (n : Nat) (d : D) : Prop where
  pl : d.plain = true
  ly : d.py.canLay0 = true
  dp : d.py.depth ≤ n
theorem D.sh.shaped {d : D} (h : d.sh 64) : SeqAt.shaped d.py = true := by
  unfold SeqAt.shaped
  rw [h.ly, decide_eq_true h.dp]
  rfl
mutual
theorem Rp.dp {K : PySem.W.Frag} {P : Program} {w : World} {M : Addr → Prop} {H : Hp} : ∀ {v : V} {d : D}, Rp K P w M H v d → d.plain = true → Dp K H v d.py
  | _, _, .non, _ => .non
  | _, _, .bl b, _ => .bl b
  | _, _, .int i, _ => .int i
  | _, _, .str x, _ => .str x
  | _, _, .lst _ e r, h => .lst (SqL.of e) (RpA.dp r h)
  | _, _, .tup _ e r, h => .tup (SqT.of e) (RpA.dp r h)
  | _, _, .ktup e r, h => .tup (.inr e) (RpA.dp r h)
  | _, _, .dctK _ _ _, h => by cases h
  | _, _, .dctN _ _ _ _, h => by cases h
  | _, _, .exc _ _, h => by cases h
  | _, _, .dctL _ _ _, h => by cases h
theorem RpA.dp {K : PySem.W.Frag} {P : Program} {w : World} {M : Addr → Prop} {H : Hp} : ∀ {v : List V} {d : List D}, RpA K P w M H v d → D.plains d = true → DpAll K H v (D.pys d)
  | _, _, .nil, _ => .nil
  | _, _, .cons a b, h => by
    have h' := Bool.and_eq_true_iff.mp (show (_ && _) = true from h)
    exact .cons (Rp.dp a h'.1) (RpA.dp b h'.2)
end
theorem Ct.Rq.dp {C : Ct} {M : Addr → Prop} {H : Hp} {v : V} {d : D} (h : C.Rq M H v d) (p : d.plain = true) : Dp C.K H v d.py := by
  rcases h with h | ⟨a, rfl, _, h⟩
  · exact h.dp p
  · cases h with
    | lst e r => exact .lst (SqL.of e) (r.dp p)
    | dctK _ _ => cases p
    | dctN _ _ _ => cases p
section
variable {X : Cx} {C : Ct}
def fEq : B2 := fun x y Q => (x.sh 64 ∧ y.sh 64) ∧ Q (.bool (deq x y))
def fNe : B2 := fun x y Q => (x.sh 64 ∧ y.sh 64) ∧ Q (.bool (!deq x y))
theorem mo_eq : Mo2 fEq := ⟨fun hq h => ⟨h.1, hq _ h.2⟩⟩
theorem mo_ne : Mo2 fNe := ⟨fun hq h => ⟨h.1, hq _ h.2⟩⟩
theorem op_eqD' (hu : X.A.units + 64 < cLine) (F : Fit X C) : Op2 X C (compareOp .Eq) fEq := by
  refine ⟨?_, mo_eq⟩
  refine fit_cases (X := X) (motive := fun C => OpR X (compareOp .Eq) (rD2 C fEq)) (fun T M0 H0 => ?_) C F
  refine (L2.op_eqD hu).imp fun x y H Q ⟨M, d1, d2, r1, r2, dm, ⟨s1, s2⟩, h⟩ => ?_
  exact ⟨_, _, r1.dp s1.pl, r2.dp s2.pl, s1.shaped, s2.shaped, h _ _ Same.refl' (.bl _)⟩
theorem op_neD' (hu : X.A.units + 64 < cLine) (F : Fit X C) : Op2 X C (compareOp .NotEq) fNe := by
  refine ⟨?_, mo_ne⟩
  refine fit_cases (X := X) (motive := fun C => OpR X (compareOp .NotEq) (rD2 C fNe)) (fun T M0 H0 => ?_) C F
  refine (L2.op_neD hu).imp fun x y H Q ⟨M, d1, d2, r1, r2, dm, ⟨s1, s2⟩, h⟩ => ?_
  exact ⟨_, _, r1.dp s1.pl, r2.dp s2.pl, s1.shaped, s2.shaped, h _ _ Same.refl' (.bl _)⟩
/-! is, is not: bools, None -/
def fIs : B2
  | .bool a, .bool b, Q => Q (.bool (decide (a = b)))
  | .none, .none, Q => Q (.bool true)
  | .bool _, .none, Q => Q (.bool false)
  | .int _, .none, Q => Q (.bool false)
  | .str _, .none, Q => Q (.bool false)
  | .list _, .none, Q => Q (.bool false)
  | .tuple _, .none, Q => Q (.bool false)
  | .dict _, .none, Q => Q (.bool false)
  | .tdict _, .none, Q => Q (.bool false)
  | .exc _, .none, Q => Q (.bool false)
  | _, _, _ => False
def fIsN : B2
  | .bool a, .bool b, Q => Q (.bool (!decide (a = b)))
  | .none, .none, Q => Q (.bool false)
  | .bool _, .none, Q => Q (.bool true)
  | .int _, .none, Q => Q (.bool true)
  | .str _, .none, Q => Q (.bool true)
  | .list _, .none, Q => Q (.bool true)
  | .tuple _, .none, Q => Q (.bool true)
  | .dict _, .none, Q => Q (.bool true)
  | .tdict _, .none, Q => Q (.bool true)
  | .exc _, .none, Q => Q (.bool true)
  | _, _, _ => False
theorem mo_is : Mo2 fIs := by
  refine ⟨fun {x y Q Q'} hq h => ?_⟩
  unfold fIs at h ⊢
  split at h <;> first | exact hq _ h | exact h
theorem mo_isN : Mo2 fIsN := by
  refine ⟨fun {x y Q Q'} hq h => ?_⟩
  unfold fIsN at h ⊢
  split at h <;> first | exact hq _ h | exact h
theorem Ct.Rq.ref {M : Addr → Prop} {H : Hp} {v : V} {d : D} (h : C.Rq M H v d) (hd : (∃ x, d = .list x) ∨ (∃ x, d = .tuple x) ∨ (∃ x, d = .dict x) ∨ (∃ x, d = .tdict x) ∨ ∃ x, d = .exc x) : ∃ a, v = .ref a := by
  rcases h with h | ⟨a, e, _, h⟩
  · rcases hd with ⟨x, rfl⟩ | ⟨x, rfl⟩ | ⟨x, rfl⟩ | ⟨x, rfl⟩ | ⟨x, rfl⟩ <;> cases h <;> exact ⟨_, rfl⟩
  · exact ⟨a, e⟩
theorem op_isD (F : Fit X C) : Op2 X C (compareOp .Is) fIs := by
  refine ⟨(op_isBl.or op_isN).imp fun x y H Q ⟨M, d1, d2, r1, r2, dm, h⟩ => ?_, mo_is⟩
  have ne : ∀ {d : D}, C.Rq M H x d → ((∃ x, d = .list x) ∨ (∃ x, d = .tuple x) ∨ (∃ x, d = .dict x) ∨ (∃ x, d = .tdict x) ∨ ∃ x, d = .exc x) → decide (x = V.non) = false := fun {d} r k => by
    obtain ⟨a, e⟩ := r.ref k
    subst e
    rfl
  unfold fIs at h
  split at h
  · exact .inl ⟨_, _, r1.bl, r2.bl, h _ _ Same.refl' (.bl _)⟩
  · refine .inr ⟨r2.non, ?_⟩
    rw [r1.non]
    exact h _ _ Same.refl' (.bl _)
  · refine .inr ⟨r2.non, ?_⟩
    rw [r1.bl]
    exact h _ _ Same.refl' (.bl _)
  · refine .inr ⟨r2.non, ?_⟩
    rw [r1.int]
    exact h _ _ Same.refl' (.bl _)
  · refine .inr ⟨r2.non, ?_⟩
    rw [r1.str]
    exact h _ _ Same.refl' (.bl _)
  · refine .inr ⟨r2.non, ?_⟩
    rw [ne r1 (.inl ⟨_, rfl⟩)]
    exact h _ _ Same.refl' (.bl _)
  · refine .inr ⟨r2.non, ?_⟩
    rw [ne r1 (.inr (.inl ⟨_, rfl⟩))]
    exact h _ _ Same.refl' (.bl _)
  · refine .inr ⟨r2.non, ?_⟩
    rw [ne r1 (.inr (.inr (.inl ⟨_, rfl⟩)))]
    exact h _ _ Same.refl' (.bl _)
  · refine .inr ⟨r2.non, ?_⟩
    rw [ne r1 (.inr (.inr (.inr (.inl ⟨_, rfl⟩))))]
    exact h _ _ Same.refl' (.bl _)
  · refine .inr ⟨r2.non, ?_⟩
    rw [ne r1 (.inr (.inr (.inr (.inr ⟨_, rfl⟩))))]
    exact h _ _ Same.refl' (.bl _)
  · exact h.elim
theorem op_isND (F : Fit X C) : Op2 X C (compareOp .IsNot) fIsN := by
  refine ⟨(op_notBl.or op_notN).imp fun x y H Q ⟨M, d1, d2, r1, r2, dm, h⟩ => ?_, mo_isN⟩
  have ne : ∀ {d : D}, C.Rq M H x d → ((∃ x, d = .list x) ∨ (∃ x, d = .tuple x) ∨ (∃ x, d = .dict x) ∨ (∃ x, d = .tdict x) ∨ ∃ x, d = .exc x) → (!decide (x = V.non)) = true := fun {d} r k => by
    obtain ⟨a, e⟩ := r.ref k
    subst e
    rfl
  unfold fIsN at h
  split at h
  · exact .inl ⟨_, _, r1.bl, r2.bl, h _ _ Same.refl' (.bl _)⟩
  · refine .inr ⟨r2.non, ?_⟩
    rw [r1.non]
    exact h _ _ Same.refl' (.bl _)
  · refine .inr ⟨r2.non, ?_⟩
    rw [r1.bl]
    exact h _ _ Same.refl' (.bl _)
  · refine .inr ⟨r2.non, ?_⟩
    rw [r1.int]
    exact h _ _ Same.refl' (.bl _)
  · refine .inr ⟨r2.non, ?_⟩
    rw [r1.str]
    exact h _ _ Same.refl' (.bl _)
  · refine .inr ⟨r2.non, ?_⟩
    rw [ne r1 (.inl ⟨_, rfl⟩)]
    exact h _ _ Same.refl' (.bl _)
  · refine .inr ⟨r2.non, ?_⟩
    rw [ne r1 (.inr (.inl ⟨_, rfl⟩))]
    exact h _ _ Same.refl' (.bl _)
  · refine .inr ⟨r2.non, ?_⟩
    rw [ne r1 (.inr (.inr (.inl ⟨_, rfl⟩)))]
    exact h _ _ Same.refl' (.bl _)
  · refine .inr ⟨r2.non, ?_⟩
    rw [ne r1 (.inr (.inr (.inr (.inl ⟨_, rfl⟩))))]
    exact h _ _ Same.refl' (.bl _)
  · refine .inr ⟨r2.non, ?_⟩
    rw [ne r1 (.inr (.inr (.inr (.inr ⟨_, rfl⟩))))]
    exact h _ _ Same.refl' (.bl _)
  · exact h.elim
/-! in, not in: a list of plain data; a tuple of ints, texts, None -/
def D.flat : D → Bool
  | .none => true
  | .bool _ => true
  | .int _ => true
  | .str _ => true
  | _ => false
def D.v : D → V
  | .bool b => .bl b
  | .int i => .int i
  | .str x => .str x
  | _ => .non
theorem Rp.flat {K : PySem.W.Frag} {P : Program} {w : World} {M : Addr → Prop} {H : Hp} {v : V} {d : D} (h : Rp K P w M H v d) (f : d.flat = true) : v = d.v ∧ flatV v = true := by
  cases h <;> first | exact ⟨rfl, rfl⟩ | cases f
theorem RpA.flat {K : PySem.W.Frag} {P : Program} {w : World} {M : Addr → Prop} {H : Hp} : ∀ {v : List V} {d : List D}, RpA K P w M H v d → d.all D.flat = true → v = d.map D.v ∧ v.all flatV = true
  | _, _, .nil, _ => ⟨rfl, rfl⟩
  | _, _, .cons a b, h => by
    rw [List.all_cons, Bool.and_eq_true] at h
    obtain ⟨e1, f1⟩ := a.flat h.1
    obtain ⟨e2, f2⟩ := b.flat h.2
    exact ⟨by rw [e1, e2]; rfl, by rw [List.all_cons, f1, f2]; rfl⟩
theorem Ct.Rq.flat {M : Addr → Prop} {H : Hp} {v : V} {d : D} (h : C.Rq M H v d) (f : d.flat = true) : v = d.v ∧ flatV v = true := by
  rcases h with h | ⟨a, e, _, h⟩
  · exact h.flat f
  · cases h <;> cases f
def dIn (x : D) (ds : List D) : Bool := ds.any fun y => deq y x
def fInS : B2
  | x, .list ds, Q => (x.sh 64 ∧ (D.list ds).sh 64) ∧ Q (.bool (dIn x ds))
  | x, .tuple ds, Q => (x.flat = true ∧ ds.all D.flat = true) ∧ Q (.bool (dIn x ds))
  | .str x, .str z, Q => ∃ c : Nat, x = ⟨#[c]⟩ ∧ Q (.bool (decide (c ∈ z.cps.toList)))
  | _, _, _ => False
def fNotInS : B2
  | x, .list ds, Q => (x.sh 64 ∧ (D.list ds).sh 64) ∧ Q (.bool (!dIn x ds))
  | x, .tuple ds, Q => (x.flat = true ∧ ds.all D.flat = true) ∧ Q (.bool (!dIn x ds))
  | .str x, .str z, Q => ∃ c : Nat, x = ⟨#[c]⟩ ∧ Q (.bool (!decide (c ∈ z.cps.toList)))
  | _, _, _ => False
theorem mo_inS : Mo2 fInS := by
  refine ⟨fun {x y Q Q'} hq h => ?_⟩
  unfold fInS at h ⊢
  split at h <;> first | exact ⟨h.1, hq _ h.2⟩ | exact let ⟨c, e, q⟩ := h; ⟨c, e, hq _ q⟩ | exact h
theorem mo_notInS : Mo2 fNotInS := by
  refine ⟨fun {x y Q Q'} hq h => ?_⟩
  unfold fNotInS at h ⊢
  split at h <;> first | exact ⟨h.1, hq _ h.2⟩ | exact let ⟨c, e, q⟩ := h; ⟨c, e, hq _ q⟩ | exact h
theorem eqV_deq {x y : D} (hx : x.flat = true) (hy : y.flat = true) : eqV x.v y.v = deq x y := by
  cases x <;> first | exact absurd hx Bool.false_ne_true | (cases y <;> first | exact absurd hy Bool.false_ne_true | (simp only [eqV, deq, D.v, D.py, PyData.eqv]))
theorem pys_any (x : D) : ∀ ds : List D, ((D.pys ds).any fun z => PyData.eqv z x.py) = dIn x ds
  | [] => rfl
  | d :: ds => by
    show (PyData.eqv d.py x.py || (D.pys ds).any _) = (deq d x || dIn x ds)
    rw [pys_any x ds]
    rfl
theorem any_flat {x : D} (hx : x.flat = true) : ∀ {ds : List D}, ds.all D.flat = true → inV x.v (ds.map D.v) = dIn x ds
  | [], _ => rfl
  | d :: ds, h => by
    rw [List.all_cons, Bool.and_eq_true] at h
    show (eqV d.v x.v || inV x.v (ds.map D.v)) = (deq d x || dIn x ds)
    rw [eqV_deq h.1 hx, any_flat hx h.2]
theorem op_inS' (hu : X.A.units + 65 < cLine) (F : Fit X C) : Op2 X C (compareOp .In) fInS := by
  refine ⟨?_, mo_inS⟩
  refine fit_cases (X := X) (motive := fun C => OpR X (compareOp .In) (rD2 C fInS)) (fun T M0 H0 => ?_) C F
  refine ((L2.op_inD hu).or (op_in_seq.or op_in_sign)).imp fun x y H Q ⟨M, d1, d2, r1, r2, dm, h⟩ => ?_
  unfold fInS at h
  split at h
  · obtain ⟨⟨s1, s2⟩, h⟩ := h
    refine .inl ⟨_, _, r1.dp s1.pl, r2.dp s2.pl, s1.shaped, s2.shaped, ?_⟩
    rw [pys_any]
    exact h _ _ Same.refl' (.bl _)
  · obtain ⟨⟨s1, s2⟩, h⟩ := h
    obtain ⟨a, xs, rfl, e, p⟩ := r2.tup
    obtain ⟨e1, f1⟩ := r1.flat s1
    obtain ⟨e2, f2⟩ := p.flat s2
    subst e1 e2
    refine .inr (.inl ⟨a, _, rfl, .inr e, f1, f2, ?_⟩)
    have z := h _ _ Same.refl' (.bl _)
    rw [← any_flat s1 s2] at z
    exact z
  · obtain ⟨c, e, h⟩ := h
    subst e
    exact .inr (.inr ⟨_, _, r1.str, r2.str, h _ _ Same.refl' (.bl _)⟩)
  · exact h.elim
theorem op_notInS' (hu : X.A.units + 65 < cLine) (F : Fit X C) : Op2 X C (compareOp .NotIn) fNotInS := by
  refine ⟨?_, mo_notInS⟩
  refine fit_cases (X := X) (motive := fun C => OpR X (compareOp .NotIn) (rD2 C fNotInS)) (fun T M0 H0 => ?_) C F
  refine ((L2.op_notInD hu).or (op_notIn_seq.or op_notIn_sign)).imp fun x y H Q ⟨M, d1, d2, r1, r2, dm, h⟩ => ?_
  unfold fNotInS at h
  split at h
  · obtain ⟨⟨s1, s2⟩, h⟩ := h
    refine .inl ⟨_, _, r1.dp s1.pl, r2.dp s2.pl, s1.shaped, s2.shaped, ?_⟩
    rw [pys_any]
    exact h _ _ Same.refl' (.bl _)
  · obtain ⟨⟨s1, s2⟩, h⟩ := h
    obtain ⟨a, xs, rfl, e, p⟩ := r2.tup
    obtain ⟨e1, f1⟩ := r1.flat s1
    obtain ⟨e2, f2⟩ := p.flat s2
    subst e1 e2
    refine .inr (.inl ⟨a, _, rfl, .inr e, f1, f2, ?_⟩)
    have z := h _ _ Same.refl' (.bl _)
    rw [← any_flat s1 s2] at z
    exact z
  · obtain ⟨c, e, h⟩ := h
    subst e
    exact .inr (.inr ⟨_, _, r1.str, r2.str, h _ _ Same.refl' (.bl _)⟩)
  · exact h.elim
end

/-! ### names and constants -/
def slot : Env → Nat → Sl
  | [], _ => .un
  | x :: _, 0 => x
  | _ :: r, n + 1 => slot r n
theorem slot_get : ∀ {r : Env} {i : Nat} {x : Sl}, slot r i = x → x ≠ .un → r[i]? = some x
  | [], _, _, h, n => absurd h.symm n
  | y :: r, 0, x, h, _ => by rw [← h]; rfl
  | y :: r, i + 1, x, h, n => by simpa using slot_get (r := r) (i := i) h n
def wVar (i : Nat) : TP := fun r Q _ => match slot r i with
  | .val d => Q d
  | _ => False
def wPeek (i : Nat) : TP := fun r Q _ => match slot r i with
  | .val d => Q d
  | .own d => Q d
  | _ => False
def wC (d : D) : TP := fun _ Q _ => Q d
section
variable {X : Cx} {C : Ct} {W : XW} {pos : Pos}
theorem mono_var {i : Nat} : Mono (wVar i) := ⟨fun {r Q Q' E E'} hq _ h => by
  unfold wVar at h ⊢
  split at h
  · exact hq _ h
  · exact h⟩
theorem mono_peek {i : Nat} : Mono (wPeek i) := ⟨fun {r Q Q' E E'} hq _ h => by
  unfold wPeek at h ⊢
  split at h
  · exact hq _ h
  · exact hq _ h
  · exact h⟩
theorem mono_c {d : D} : Mono (wC d) := ⟨fun hq _ h => hq _ h⟩
theorem dv_var (i : Nat) {x : Str} (hN : X.N[i]? = some x := by rfl) (hv : Vis X.env.scope x := by first | exact Or.inl rfl | exact Or.inr (Or.inl rfl) | exact Or.inr (Or.inr rfl)) (hd : (x == ("__debug__" : Str)) = false := by decide)
    (hcd : (x == ("__classdict__" : Str)) = false := by decide) : DV X C W (.Name x pos) (wVar i) := by
  refine ⟨(pe_var (i := i) hN hv hd hcd).imp fun σ H Q ⟨M, r, E, S, hW, h⟩ => ?_, mono_var⟩
  unfold wVar at h
  split at h
  · rename_i d e
    obtain ⟨v, h1, h2⟩ := S.val i d (slot_get e (by simp))
    exact ⟨v, h1, h v H Ct.Ex.refl S h2⟩
  · exact h.elim
theorem de_peek (i : Nat) {x : Str} (hN : X.N[i]? = some x := by rfl) (hv : Vis X.env.scope x := by first | exact Or.inl rfl | exact Or.inr (Or.inl rfl) | exact Or.inr (Or.inr rfl)) (hd : (x == ("__debug__" : Str)) = false := by decide)
    (hcd : (x == ("__classdict__" : Str)) = false := by decide) : DE X C W (.Name x pos) (wPeek i) := by
  refine ⟨(pe_var (i := i) hN hv hd hcd).imp fun σ H Q ⟨M, r, E, S, hW, h⟩ => ?_, mono_peek⟩
  unfold wPeek at h
  split at h
  · rename_i d e
    obtain ⟨v, h1, h2⟩ := S.val i d (slot_get e (by simp))
    exact ⟨v, h1, h v H Ct.Ex.refl S h2.q⟩
  · rename_i d e
    obtain ⟨a, h1, h2, h3, h4, h5⟩ := S.own i d (slot_get e (by simp))
    exact ⟨_, h1, h _ H Ct.Ex.refl S (.inr ⟨a, rfl, fun t => h4 (S.inm a t), h5⟩)⟩
  · exact h.elim
theorem dv_int {i : Int} {k : Nat} : DV X C W (.Constant (.int i) k pos) (wC (.int i)) := ⟨pe_int.imp fun σ H Q ⟨M, r, E, S, hW, h⟩ => h _ H Ct.Ex.refl S (.int i), mono_c⟩
theorem dv_str {x : Str} {k : Nat} : DV X C W (.Constant (.str x) k pos) (wC (.str x)) := ⟨pe_str.imp fun σ H Q ⟨M, r, E, S, hW, h⟩ => h _ H Ct.Ex.refl S (.str x), mono_c⟩
theorem dv_bl {b : Bool} {k : Nat} : DV X C W (.Constant (.bool b) k pos) (wC (.bool b)) := ⟨pe_bl.imp fun σ H Q ⟨M, r, E, S, hW, h⟩ => h _ H Ct.Ex.refl S (.bl b), mono_c⟩
theorem dv_none {k : Nat} : DV X C W (.Constant .none k pos) (wC .none) := ⟨pe_non.imp fun σ H Q ⟨M, r, E, S, hW, h⟩ => h _ H Ct.Ex.refl S .non, mono_c⟩
/-- a module's constant -/
def KC (C : Ct) (v : V) (d : D) : Prop := ∀ M H, C.Rp M H v d
theorem dv_glob {x : Str} {v : V} {u : Value} {d : D} (hk : KC C v d) (hg : Gl X x) (hm : X.mg x = some u) (r : RelV v u) (hd : (x == ("__debug__" : Str)) = false := by decide) : DV X C W (.Name x pos) (wC d) :=
  ⟨(pe_glob hg hm r hd).imp fun σ H Q ⟨M, r, E, S, hW, h⟩ => h _ H Ct.Ex.refl S (hk M H), mono_c⟩

/-! ### -x -/
def wNeg (ta : TP) : TP := fun r Q E => ta r (fun x => match x with
  | .int i => Q (.int (-i))
  | _ => False) E
theorem dv_neg {a : Expr} {ta : TP} (ha : DE X C W a ta) : DV X C W (.UnaryOp .USub a pos) (wNeg ta) := by
  refine ⟨(pe_un un_neg ha.pe).imp fun σ H Q ⟨M, r, E, S, hW, h⟩ => ⟨M, r, E, S, hW, ha.mo.imp (fun x q v H1 k S1 p => ?_) (fun _ z => z) h⟩, ⟨fun hq he h => ha.mo.imp (fun x q => ?_) he h⟩⟩
  · cases x with
    | int i => exact ⟨i, p.int, q _ _ k S1 (.int _)⟩
    | _ => exact q.elim
  · cases x with
    | int i => exact hq _ q
    | _ => exact q

/-! ### tests -/
abbrev TB := Env → (Bool → Prop) → (Addr → Prop) → Prop
structure MonoB (t : TB) : Prop where
  imp : ∀ {r : Env} {Q Q' : Bool → Prop} {E E' : Addr → Prop}, (∀ d, Q d → Q' d) → (∀ c, E c → E' c) → t r Q E → t r Q' E'
def lB (C : Ct) (W : XW) (t : TB) : TT := fun σ H Q => ∃ M r E, Sim C M r σ H ∧ Wish C W M r σ H E ∧ t r (fun d => ∀ H', C.Ex H H' → Sim C M r σ H' → Q d H') E
structure DT (X : Cx) (C : Ct) (W : XW) (e : Expr) (t : TB) : Prop where
  pt : PT X e (lB C W t)
  mo : MonoB t
/-- .. of and, or -/
structure DW (X : Cx) (C : Ct) (W : XW) (e : Expr) (t : TB) : Prop where
  pw : PW X e (lB C W t)
  mo : MonoB t
theorem _root_.L2.PW.imp {X : Cx} {e : Expr} {t t' : TT} (h : PW X e t) (hi : ∀ σ H Q, t' σ H Q → t σ H Q) : PW X e t' := ⟨fun wh pins s σ H Q I q => h.run wh pins s σ H Q I (hi _ _ _ q)⟩
theorem DW.t {e : Expr} {t : TB} (h : DW X C W e t) : DT X C W e t := ⟨h.pw.pt, h.mo⟩
variable {a b c : Expr} {ta tb tc : TP} {ba bb bc : TB} {rest : List Expr}
def bTest (t : TP) : TB := fun r Q E => t r (fun x => match x with
  | .bool k => Q k
  | _ => False) E
theorem mono_test {t : TP} (h : Mono t) : MonoB (bTest t) := ⟨fun hq he q => h.imp (fun x z => by
  cases x with
  | bool k => exact hq _ z
  | _ => exact z) he q⟩
theorem run_test {t : TP} (h : DE X C W a t) {σ : L2.St} {H : Hp} {Q : Bool → Hp → Prop} (q : lB C W (bTest t) σ H Q) : lP C W t σ H fun x H1 => ∃ k, x = .bl k ∧ Q k H1 := by
  obtain ⟨M, r, E, S, hW, q⟩ := q
  refine ⟨M, r, E, S, hW, h.mo.imp (fun x z v H1 k S1 p => ?_) (fun _ z => z) q⟩
  cases x with
  | bool k' => exact ⟨k', p.bl, z H1 k S1⟩
  | _ => exact z.elim
/-- an expression whose value is a bool, as a test -/
theorem dt_val {t : TP} (h : DE X C W a t) (he : ∀ whole, isTrue a X.env whole = (do let v ← whole; standAt a.pos; holding [v] (truthy v)) := by intro _; rfl) : DT X C W a (bTest t) :=
  ⟨(pt_val h.pe he).imp fun σ H Q q => run_test h q, mono_test h.mo⟩
theorem dt_cmp {op : CmpOp} {f : B2} (ho : Op2 X C (compareOp op) f) (ha : DE X C W a ta) (hb : DE X C W b tb) (hm : behindInMarks op b = false := by first | exact nomark _ (by decide) (by decide) | rfl) : DT X C W (.Compare a [op] [b] pos) (bTest (wOp2 f ta tb)) := by
  refine ⟨(pt_cmpR ho.ok ha.pe hb.pe hm).imp fun σ H Q q => ?_, mono_test (mono_op2 ho.mo ha.mo hb.mo)⟩
  obtain ⟨M, r, E, S, hW, q⟩ := q
  show tOp (rD2 C f) (lP C W ta) (lP C W tb) σ H fun x H' => ∃ k, x = .bl k ∧ Q k H'
  refine run_op2 ha hb ⟨M, r, E, S, hW, (mono_op2 ho.mo ha.mo hb.mo).imp (fun x z v H1 k S1 p => ?_) (fun _ z => z) q⟩ ho.mo
  cases x with
  | bool k' => exact ⟨k', (Rp.q p).bl, z H1 k S1⟩
  | _ => exact z.elim
def bNot (t : TB) : TB := fun r Q E => t r (fun k => Q (!k)) E
theorem dt_not (h : DT X C W a ba) : DT X C W (.UnaryOp .Not a pos) (bNot ba) :=
  ⟨(pt_not h.pt).imp fun σ H Q ⟨M, r, E, S, hW, q⟩ => ⟨M, r, E, S, hW, q⟩, ⟨fun hq he q => h.mo.imp (fun _ z => hq _ z) he q⟩⟩
def bAnd (t u : TB) : TB := fun r Q E => t r (fun k => if k = true then u r Q E else Q false) E
def bOr (t u : TB) : TB := fun r Q E => t r (fun k => if k = true then Q true else u r Q E) E
theorem mono_and (h : MonoB ba) (h' : MonoB bb) : MonoB (bAnd ba bb) := ⟨fun hq he q => h.imp (fun k z => by
  cases k with
  | true => exact h'.imp hq he z
  | false => exact hq _ z) he q⟩
theorem mono_or (h : MonoB ba) (h' : MonoB bb) : MonoB (bOr ba bb) := ⟨fun hq he q => h.imp (fun k z => by
  cases k with
  | true => exact hq _ z
  | false => exact h'.imp hq he z) he q⟩
theorem dw_and1 (h : DT X C W a ba) : DW X C W (.BoolOp .And [a] pos) ba := ⟨pw_and1 h.pt, h.mo⟩
theorem dw_or1 (h : DT X C W a ba) : DW X C W (.BoolOp .Or [a] pos) ba := ⟨pw_or1 h.pt, h.mo⟩
theorem dw_and (h : DT X C W a ba) (h' : DW X C W (.BoolOp .And (b :: rest) pos) bb) : DW X C W (.BoolOp .And (a :: b :: rest) pos) (bAnd ba bb) := by
  refine ⟨(pw_and h.pt h'.pw).imp fun σ H Q ⟨M, r, E, S, hW, q⟩ => ⟨M, r, E, S, hW, h.mo.imp (fun k z H1 x S1 => ?_) (fun _ z => z) q⟩, mono_and h.mo h'.mo⟩
  cases k with
  | true => exact ⟨M, r, E, S1, hW.mono x, h'.mo.imp (fun k' y H2 x2 S2 => y H2 (x.trans x2) S2) (fun _ z => z) z⟩
  | false => exact z H1 x S1
theorem dw_or (h : DT X C W a ba) (h' : DW X C W (.BoolOp .Or (b :: rest) pos) bb) : DW X C W (.BoolOp .Or (a :: b :: rest) pos) (bOr ba bb) := by
  refine ⟨(pw_or h.pt h'.pw).imp fun σ H Q ⟨M, r, E, S, hW, q⟩ => ⟨M, r, E, S, hW, h.mo.imp (fun k z H1 x S1 => ?_) (fun _ z => z) q⟩, mono_or h.mo h'.mo⟩
  cases k with
  | true => exact z H1 x S1
  | false => exact ⟨M, r, E, S1, hW.mono x, h'.mo.imp (fun k' y H2 x2 S2 => y H2 (x.trans x2) S2) (fun _ z => z) z⟩
/-! .. as values -/
def wAnd (t u : TP) : TP := fun r Q E => t r (fun x => match x with
  | .bool k => if k = true then u r Q E else Q (.bool false)
  | _ => False) E
def wOr (t u : TP) : TP := fun r Q E => t r (fun x => match x with
  | .bool k => if k = true then Q (.bool true) else u r Q E
  | _ => False) E
def wNot (t : TP) : TP := fun r Q E => t r (fun x => match x with
  | .bool k => Q (.bool (!k))
  | _ => False) E
theorem mono_wand (h : Mono ta) (h' : Mono tb) : Mono (wAnd ta tb) := ⟨fun hq he q => h.imp (fun x z => by
  cases x with
  | bool k =>
    cases k with
    | true => exact h'.imp hq he z
    | false => exact hq _ z
  | _ => exact z) he q⟩
theorem mono_wor (h : Mono ta) (h' : Mono tb) : Mono (wOr ta tb) := ⟨fun hq he q => h.imp (fun x z => by
  cases x with
  | bool k =>
    cases k with
    | true => exact hq _ z
    | false => exact h'.imp hq he z
  | _ => exact z) he q⟩
theorem dv_one {op : BoolOp} (h : DV X C W a ta) : DV X C W (.BoolOp op [a] pos) ta := ⟨pe_one h.pe, h.mo⟩
theorem dv_and (h : DE X C W a ta) (h' : DV X C W (.BoolOp .And (b :: rest) pos) tb) : DV X C W (.BoolOp .And (a :: b :: rest) pos) (wAnd ta tb) := by
  refine ⟨(pe_and h.pe h'.pe).imp fun σ H Q ⟨M, r, E, S, hW, q⟩ => ⟨M, r, E, S, hW, h.mo.imp (fun x z v H1 k S1 p => ?_) (fun _ z => z) q⟩, mono_wand h.mo h'.mo⟩
  cases x with
  | bool k' =>
    refine ⟨k', p.bl, ?_⟩
    cases k' with
    | true => exact ⟨M, r, E, S1, hW.mono k, h'.mo.imp (fun d y v2 H2 k2 S2 p2 => y v2 H2 (k.trans k2) S2 p2) (fun _ z => z) z⟩
    | false => exact z _ H1 k S1 (.bl false)
  | _ => exact z.elim
theorem dv_or (h : DE X C W a ta) (h' : DV X C W (.BoolOp .Or (b :: rest) pos) tb) : DV X C W (.BoolOp .Or (a :: b :: rest) pos) (wOr ta tb) := by
  refine ⟨(pe_or h.pe h'.pe).imp fun σ H Q ⟨M, r, E, S, hW, q⟩ => ⟨M, r, E, S, hW, h.mo.imp (fun x z v H1 k S1 p => ?_) (fun _ z => z) q⟩, mono_wor h.mo h'.mo⟩
  cases x with
  | bool k' =>
    refine ⟨k', p.bl, ?_⟩
    cases k' with
    | true => exact z _ H1 k S1 (.bl true)
    | false => exact ⟨M, r, E, S1, hW.mono k, h'.mo.imp (fun d y v2 H2 k2 S2 p2 => y v2 H2 (k.trans k2) S2 p2) (fun _ z => z) z⟩
  | _ => exact z.elim
theorem dv_not (h : DE X C W a ta) : DV X C W (.UnaryOp .Not a pos) (wNot ta) := by
  refine ⟨(pe_not h.pe).imp fun σ H Q ⟨M, r, E, S, hW, q⟩ => ⟨M, r, E, S, hW, h.mo.imp (fun x z v H1 k S1 p => ?_) (fun _ z => z) q⟩, ⟨fun hq he q => h.mo.imp (fun x z => ?_) he q⟩⟩
  · cases x with
    | bool k' => exact ⟨k', p.bl, z _ H1 k S1 (.bl _)⟩
    | _ => exact z.elim
  · cases x with
    | bool k => exact hq _ z
    | _ => exact z
def wIf (t : TB) (u v : TP) : TP := fun r Q E => t r (fun k => if k = true then u r Q E else v r Q E) E
theorem mono_if (h : MonoB ba) (h1 : Mono ta) (h2 : Mono tb) : Mono (wIf ba ta tb) := ⟨fun hq he q => h.imp (fun k z => by
  cases k with
  | true => exact h1.imp hq he z
  | false => exact h2.imp hq he z) he q⟩
theorem dv_if (h : DT X C W c ba) (h1 : DV X C W a ta) (h2 : DV X C W b tb) : DV X C W (.IfExp c a b pos) (wIf ba ta tb) := by
  refine ⟨(pe_ifExp h.pt h1.pe h2.pe).imp fun σ H Q ⟨M, r, E, S, hW, q⟩ => ⟨M, r, E, S, hW, h.mo.imp (fun k z H1 x S1 => ?_) (fun _ z => z) q⟩, mono_if h.mo h1.mo h2.mo⟩
  cases k with
  | true => exact ⟨M, r, E, S1, hW.mono x, h1.mo.imp (fun d y v2 H2 k2 S2 p2 => y v2 H2 (x.trans k2) S2 p2) (fun _ z => z) z⟩
  | false => exact ⟨M, r, E, S1, hW.mono x, h2.mo.imp (fun d y v2 H2 k2 S2 p2 => y v2 H2 (x.trans k2) S2 p2) (fun _ z => z) z⟩
/-- a < b < c -/
theorem run_chain {f g : B2} (ha : DE X C W a ta) (hb : DE X C W b tb) (hc : DE X C W c tc) (hf : Mo2 f) (hg : Mo2 g) {σ : L2.St} {H : Hp} {Q : VK} (q : lV C W (wChain f g ta tb tc) σ H Q) :
    tChain (rD2 C f) (rD2 C g) (lP C W ta) (lP C W tb) (lP C W tc) σ H Q := by
  obtain ⟨M, r, E, S, hW, q⟩ := q
  refine ⟨M, r, E, S, hW, ha.mo.imp (fun x q1 v1 H1 k1 S1 p1 => ⟨M, r, E, S1, hW.mono k1, hb.mo.imp (fun y q2 v2 H2 k2 S2 p2 => ?_) (fun _ z => z) q1⟩) (fun _ z => z) q⟩
  refine ⟨M, x, y, S1.rq k2 p1, p2, S2.dom, hf.imp (fun d z v H3 s p => ?_) q2⟩
  have S3 := S2.same s
  cases d with
  | bool k =>
    refine ⟨k, (Rp.q (C := C) p).bl, ?_⟩
    cases k with
    | true => exact ⟨M, r, E, S3, hW.mono (k1.trans (k2.trans (Same.ex s))), hc.mo.imp (fun u q4 v4 H4 k4 S4 p4 => ⟨M, y, u, S3.rq k4 (S2.rq (Same.ex s) p2), p4, S4.dom, hg.imp (fun d z v H5 s5 p5 => z v H5 (k1.trans (k2.trans ((Same.ex s).trans (k4.trans (Same.ex s5))))) (S4.same s5) p5) q4⟩) (fun _ z => z) z⟩
    | false => exact z _ H3 (k1.trans (k2.trans (Same.ex s))) S3 (.bl false)
  | _ => exact z.elim
end
end HC
/-! HC4: arguments, displays, subscripts, calls of defs and of built-ins. -/
namespace HC
open PySem PySem.Spec PyProof.Rows L2

/-- all that a rule wants of the frame -/
structure Good (X : Cx) (C : Ct) (W : XW) (k : Nat) : Prop where
  fit : Fit X C
  calm : X.calm = true
  room : Room k X.A
  pass : ∀ σ, PassesAt (L2.CX X.prog X.w) X σ (W σ)
  own : PassesOwn (model X.prog X.w) X.A X.env X.xe
  nd : X.N.Nodup
theorem Good.hu {X : Cx} {C : Ct} {W : XW} {k : Nat} (G : Good X C W k) : X.A.units + 64 < cLine := G.room.units
theorem Good.hu65 {X : Cx} {C : Ct} {W : XW} {k : Nat} (G : Good X C W k) : X.A.units + 65 < cLine := by have := G.room.un; omega
theorem Good.hu1 {X : Cx} {C : Ct} {W : XW} {k : Nat} (G : Good X C W k) : X.A.units + 1 < cLine := by have := G.room.un; omega

/-! ### arguments -/
abbrev TPA := Env → (List D → Prop) → (Addr → Prop) → Prop
inductive RqA (C : Ct) (M : Addr → Prop) (H : Hp) : List V → List D → Prop
  | nil : RqA C M H [] []
  | cons {v : V} {vs : List V} {d : D} {ds : List D} : C.Rq M H v d → RqA C M H vs ds → RqA C M H (v :: vs) (d :: ds)
theorem Sim.rqA {C : Ct} {M : Addr → Prop} {r : Env} {σ : L2.St} {H H' : Hp} (S : Sim C M r σ H) (k : C.Ex H H') : ∀ {v : List V} {d : List D}, RqA C M H v d → RqA C M H' v d
  | _, _, .nil => .nil
  | _, _, .cons a b => .cons (S.rq k a) (Sim.rqA S k b)
def lAq (C : Ct) (W : XW) (t : TPA) : TA := fun σ H Q => ∃ M r E, Sim C M r σ H ∧ Wish C W M r σ H E ∧ t r (fun ds => ∀ vs H', C.Ex H H' → Sim C M r σ H' → RqA C M H' vs ds → Q vs H') E
def lAv (C : Ct) (W : XW) (t : TPA) : TA := fun σ H Q => ∃ M r E, Sim C M r σ H ∧ Wish C W M r σ H E ∧ t r (fun ds => ∀ vs H', C.Ex H H' → Sim C M r σ H' → C.RpA M H' vs ds → Q vs H') E
structure MonoA (n : Nat) (t : TPA) : Prop where
  imp : ∀ {r : Env} {Q Q' : List D → Prop} {E E' : Addr → Prop}, (∀ d, d.length = n → Q d → Q' d) → (∀ c, E c → E' c) → t r Q E → t r Q' E'
structure DAq (X : Cx) (C : Ct) (W : XW) (es : List Expr) (t : TPA) : Prop where
  pa : PA X es (lAq C W t)
  mo : MonoA es.length t
structure DAv (X : Cx) (C : Ct) (W : XW) (es : List Expr) (t : TPA) : Prop where
  pa : PA X es (lAv C W t)
  mo : MonoA es.length t
def wNil : TPA := fun _ Q _ => Q []
def wCons (t : TP) (u : TPA) : TPA := fun r Q E => t r (fun x => u r (fun xs => Q (x :: xs)) E) E
section
variable {X : Cx} {C : Ct} {W : XW} {e : Expr} {es : List Expr} {t : TP} {u : TPA} {pos : Pos} {k : Nat}
theorem monoA_nil : MonoA 0 wNil := ⟨fun hq _ h => hq _ rfl h⟩
theorem monoA_cons {n : Nat} (h : Mono t) (h' : MonoA n u) : MonoA (n + 1) (wCons t u) := ⟨fun hq he q => h.imp (fun x z => h'.imp (fun xs hl y => hq _ (by rw [List.length_cons, hl]) y) he z) he q⟩
theorem daq_nil : DAq X C W [] wNil := ⟨pa_nil.imp fun σ H Q ⟨M, r, E, S, hW, q⟩ => q [] H Ct.Ex.refl S .nil, monoA_nil⟩
theorem dav_nil : DAv X C W [] wNil := ⟨pa_nil.imp fun σ H Q ⟨M, r, E, S, hW, q⟩ => q [] H Ct.Ex.refl S .nil, monoA_nil⟩
theorem daq_cons (h : DE X C W e t) (h' : DAq X C W es u) (hs : starEach (e :: es) X.env = (false, eval e X.env) :: starEach es X.env := by rfl) : DAq X C W (e :: es) (wCons t u) := by
  refine ⟨(pa_cons h.pe h'.pa hs).imp fun σ H Q ⟨M, r, E, S, hW, q⟩ => ⟨M, r, E, S, hW, h.mo.imp (fun x z v H1 k1 S1 p1 => ⟨M, r, E, S1, hW.mono k1, h'.mo.imp (fun xs _ y vs H2 k2 S2 p2 => ?_) (fun _ z => z) z⟩) (fun _ z => z) q⟩, monoA_cons h.mo h'.mo⟩
  exact y _ H2 (k1.trans k2) S2 (.cons (S1.rq k2 p1) p2)
theorem dav_cons (h : DV X C W e t) (h' : DAv X C W es u) (hs : starEach (e :: es) X.env = (false, eval e X.env) :: starEach es X.env := by rfl) : DAv X C W (e :: es) (wCons t u) := by
  refine ⟨(pa_cons h.pe h'.pa hs).imp fun σ H Q ⟨M, r, E, S, hW, q⟩ => ⟨M, r, E, S, hW, h.mo.imp (fun x z v H1 k1 S1 p1 => ⟨M, r, E, S1, hW.mono k1, h'.mo.imp (fun xs _ y vs H2 k2 S2 p2 => ?_) (fun _ z => z) z⟩) (fun _ z => z) q⟩, monoA_cons h.mo h'.mo⟩
  exact y _ H2 (k1.trans k2) S2 (.cons (S1.rp k2 p1) p2)

/-! ### displays -/
def wTup (u : TPA) : TP := fun r Q E => u r (fun ds => Q (.tuple ds)) E
def wLst (u : TPA) : TP := fun r Q E => u r (fun ds => Q (.list ds)) E
theorem le1000 {n : Nat} (h : n ≤ 1000) : n ≤ sizeLine := Nat.le_of_lt (small1000 h)
theorem dv_tup {x1 : Nat} (h : DAv X C W es u) (hl : es.length ≤ 1000 := by decide) : DV X C W (.Tuple es x1 pos) (wTup u) := by
  refine ⟨(pe_tup h.pa).imp fun σ H Q ⟨M, r, E, S, hW, q⟩ => ⟨M, r, E, S, hW, h.mo.imp (fun ds hd z vs H1 k1 S1 p1 => ⟨le1000 (by rw [HC.RpA.length p1, hd]; exact hl), fun p hp => ?_⟩) (fun _ z => z) q⟩, ⟨fun hq he q => h.mo.imp (fun _ _ z => hq _ z) he q⟩⟩
  exact z _ _ (k1.trans (Same.ex (same_upd hp))) (S1.same (same_upd hp)) (.tup (S1.fresh hp) upd_same (HC.RpA.step (Stp.grow (same_upd hp)) p1))
theorem dv_lst (h : DAv X C W es u) (hl : es.length ≤ 1000 := by decide) : DV X C W (.List es pos) (wLst u) := by
  refine ⟨(pe_lst h.pa).imp fun σ H Q ⟨M, r, E, S, hW, q⟩ => ⟨M, r, E, S, hW, h.mo.imp (fun ds hd z vs H1 k1 S1 p1 => ⟨le1000 (by rw [HC.RpA.length p1, hd]; exact hl), fun p hp => ?_⟩) (fun _ z => z) q⟩, ⟨fun hq he q => h.mo.imp (fun _ _ z => hq _ z) he q⟩⟩
  exact z _ _ (k1.trans (Same.ex (same_upd hp))) (S1.same (same_upd hp)) (.lst (S1.fresh hp) upd_same (HC.RpA.step (Stp.grow (same_upd hp)) p1))

/-! ### subscripts: lists, tuples, texts -/
def fIxS : B2
  | .list ds, .int i, Q => ∃ d, atI ds i = some d ∧ Q d
  | .tuple ds, .int i, Q => ∃ d, atI ds i = some d ∧ Q d
  | .str z, .int i, Q => ∃ c, z.length ≤ sizeLine ∧ atI z.cps.toList i = some c ∧ Q (.str ⟨#[c]⟩)
  | _, _, _ => False
theorem mo_ixS : Mo2 fIxS := by
  refine ⟨fun {x y Q Q'} hq h => ?_⟩
  unfold fIxS at h ⊢
  split at h
  · exact let ⟨d, e, q⟩ := h; ⟨d, e, hq _ q⟩
  · exact let ⟨d, e, q⟩ := h; ⟨d, e, hq _ q⟩
  · exact let ⟨d, l, e, q⟩ := h; ⟨d, l, e, hq _ q⟩
  · exact h
theorem ix_S (F : Fit X C) : IxR X (rD2 C fIxS) := by
  refine fit_cases (X := X) (motive := fun C => IxR X (rD2 C fIxS)) (fun T M0 H0 => ?_) C F
  intro value slice pins s σ H x y v uu Q I rx ry ⟨M, d1, d2, r1, r2, dm, h⟩ hs
  refine ix_seq value slice pins s σ H x y v uu Q I rx ry ?_ hs
  unfold fIxS at h
  split at h
  · obtain ⟨d, e, h⟩ := h
    obtain ⟨a, xs, rfl, e1, p1⟩ := r1.lst
    obtain ⟨v, e2, p2⟩ := HC.RpA.at p1 e
    exact .inl ⟨a, xs, _, v, rfl, r2.int, SqL.of e1, e2, h _ _ Same.refl' p2⟩
  · obtain ⟨d, e, h⟩ := h
    obtain ⟨a, xs, rfl, e1, p1⟩ := r1.tup
    obtain ⟨v, e2, p2⟩ := HC.RpA.at p1 e
    exact .inr (.inl ⟨a, xs, _, v, rfl, r2.int, e1, e2, h _ _ Same.refl' p2⟩)
  · obtain ⟨c, hl, e, h⟩ := h
    exact .inr (.inr ⟨_, _, c, r1.str, r2.int, hl, e, h _ _ Same.refl' (.str _)⟩)
  · exact h.elim
theorem dv_ixS {a b : Expr} {ta tb : TP} (F : Fit X C) (ha : DE X C W a ta) (hb : DE X C W b tb) (hs : PlainIx b := by exact fun _ _ => rfl) : DV X C W (.Subscript a b pos) (wOp2 fIxS ta tb) :=
  ⟨(pe_ix (ix_S F) ha.pe hb.pe hs).imp fun σ H Q h => run_op2 ha hb h mo_ixS, mono_op2 mo_ixS ha.mo hb.mo⟩

/-! ### slices -/
abbrev TPO := Env → (Option Int → Prop) → (Addr → Prop) → Prop
def lO (C : Ct) (W : XW) (t : TPO) : TO := fun σ H Q => ∃ M r E, Sim C M r σ H ∧ Wish C W M r σ H E ∧ t r (fun o => ∀ H', C.Ex H H' → Sim C M r σ H' → Q o H') E
structure MonoO (t : TPO) : Prop where
  imp : ∀ {r : Env} {Q Q' : Option Int → Prop} {E E' : Addr → Prop}, (∀ d, Q d → Q' d) → (∀ c, E c → E' c) → t r Q E → t r Q' E'
structure DO (X : Cx) (C : Ct) (W : XW) (e : Option Expr) (t : TPO) : Prop where
  po : PO X e (lO C W t)
  mo : MonoO t
theorem _root_.L2.PO.imp {X : Cx} {e : Option Expr} {t t' : TO} (h : PO X e t) (hi : ∀ σ H Q, t' σ H Q → t σ H Q) : PO X e t' := ⟨fun pins s σ H Q I q => h.run pins s σ H Q I (hi _ _ _ q)⟩
def wNoPart : TPO := fun _ Q _ => Q none
def wPart (t : TP) : TPO := fun r Q E => t r (fun x => match x with
  | .int i => Q (some i)
  | _ => False) E
theorem do_none : DO X C W none wNoPart := ⟨po_none.imp fun σ H Q ⟨M, r, E, S, hW, q⟩ => q H Ct.Ex.refl S, ⟨fun hq _ h => hq _ h⟩⟩
theorem do_some (h : DE X C W e t) : DO X C W (some e) (wPart t) := by
  refine ⟨(po_some h.pe).imp fun σ H Q ⟨M, r, E, S, hW, q⟩ => ⟨M, r, E, S, hW, h.mo.imp (fun x z v H1 k1 S1 p1 => ?_) (fun _ z => z) q⟩, ⟨fun hq he q => h.mo.imp (fun x z => ?_) he q⟩⟩
  · cases x with
    | int i => exact ⟨i, p1.int, z H1 k1 S1⟩
    | _ => exact z.elim
  · cases x with
    | int i => exact hq _ z
    | _ => exact z
def fSl : D → Option Int → Option Int → (D → Prop) → Prop
  | .list ds, lo, hi, Q => Q (.list (cutL ds lo hi))
  | .tuple ds, lo, hi, Q => Q (.tuple (cutL ds lo hi))
  | _, _, _, _ => False
theorem cutL_all {α : Type} (xs : List α) (lo hi : Option Int) (h : HT.sIx xs.length 0 lo = 0 ∧ HT.sIx xs.length xs.length hi = xs.length) : cutL xs lo hi = xs := by
  unfold cutL
  rw [h.1, h.2]
  show List.take (xs.length - 0) (List.drop 0 xs) = xs
  simp
def wSl (t : TP) (lo hi : TPO) : TP := fun r Q E => t r (fun x => lo r (fun a => hi r (fun b => fSl x a b Q) E) E) E
theorem mo_sl {x : D} {a b : Option Int} {Q Q' : D → Prop} (hq : ∀ d, Q d → Q' d) (h : fSl x a b Q) : fSl x a b Q' := by
  unfold fSl at h ⊢
  split at h <;> first | exact hq _ h | exact h
def rDSl (C : Ct) : V → Option Int → Option Int → Hp → VK → Prop := fun x lo hi H Q => ∃ M d1, C.Rq M H x d1 ∧ Dom M H ∧ fSl d1 lo hi fun d => ∀ v H', Same H H' → C.Rp M H' v d → Q v H'
theorem sl_D (F : Fit X C) : SlR X (rDSl C) := by
  refine fit_cases (X := X) (motive := fun C => SlR X (rDSl C)) (fun T M0 H0 => ?_) C F
  intro pins s σ H x v vl vu lo hi sl Q I rx hs pl pu ⟨M, d1, r1, dm, h⟩
  unfold fSl at h
  split at h
  · obtain ⟨a, xs, rfl, e1, p1⟩ := r1.lst
    refine sl_list pins s σ H _ v vl vu _ _ sl Q I rx hs pl pu ⟨a, xs, rfl, SqL.of e1, fun p hp => h _ _ (same_upd hp) (.lst (dm.fresh hp) upd_same ?_)⟩
    exact (HC.RpA.cut p1 _ _).step (Stp.grow (same_upd hp))
  · obtain ⟨a, xs, rfl, e1, p1⟩ := r1.tup
    refine sl_tupA pins s σ H _ v vl vu _ _ sl Q I rx hs pl pu ⟨a, xs, rfl, e1, fun hw => ?_, fun _ p hp => h _ _ (same_upd hp) (.tup (dm.fresh hp) upd_same ((HC.RpA.cut p1 _ _).step (Stp.grow (same_upd hp))))⟩
    rw [HC.RpA.length p1] at hw
    rw [cutL_all _ _ _ hw] at h
    exact h _ _ Same.refl' r1.tupRp
  · exact h.elim
theorem dv_slice {lo hi : Option Expr} {tl th : TPO} {p2 : Pos} (F : Fit X C) (he : DE X C W e t) (hl : DO X C W lo tl) (hh : DO X C W hi th) : DV X C W (.Subscript e (.Slice lo hi none p2) pos) (wSl t tl th) := by
  refine ⟨(pe_slice (sl_D F) he.pe hl.po hh.po).imp fun σ H Q ⟨M, r, E, S, hW, q⟩ => ⟨M, r, E, S, hW, he.mo.imp (fun x z v H1 k1 S1 p1 => ⟨M, r, E, S1, hW.mono k1, hl.mo.imp (fun a y H2 k2 S2 => ⟨M, r, E, S2, hW.mono (k1.trans k2), hh.mo.imp (fun b y2 H3 k3 S3 => ?_) (fun _ z => z) y⟩) (fun _ z => z) z⟩) (fun _ z => z) q⟩,
    ⟨fun hq he' q => he.mo.imp (fun x z => hl.mo.imp (fun a y => hh.mo.imp (fun b y2 => mo_sl hq y2) he' y) he' z) he' q⟩⟩
  exact ⟨M, x, S2.rq k3 (S1.rq k2 p1), S3.dom, mo_sl (fun d w v H4 s p => w v H4 (k1.trans (k2.trans (k3.trans (Same.ex s)))) (S3.same s) p) y2⟩
/-- xs[::-1] -/
def wRev (t : TP) : TP := fun r Q E => t r (fun x => match x with
  | .list ds => Q (.list ds.reverse)
  | _ => False) E
theorem dv_rev {kk : Nat} {p1 p2 p3 : Pos} (F : Fit X C) (he : DE X C W e t) : DV X C W (.Subscript e (.Slice none none (some (.UnaryOp .USub (.Constant (.int 1) kk p1) p2)) p3) pos) (wRev t) := by
  refine ⟨(pe_revL he.pe).imp fun σ H Q ⟨M, r, E, S, hW, q⟩ => ⟨M, r, E, S, hW, he.mo.imp (fun x z v H1 k1 S1 p1 => ?_) (fun _ z => z) q⟩, ⟨fun hq he' q => he.mo.imp (fun x z => ?_) he' q⟩⟩
  · cases x with
    | list ds =>
      obtain ⟨a, xs, rfl, e1, p1⟩ := p1.lst
      exact ⟨a, xs, rfl, SqL.of e1, fun p hp => z _ _ (k1.trans (Same.ex (same_upd hp))) (S1.same (same_upd hp)) (.lst (S1.fresh hp) upd_same ((HC.RpA.reverse p1).step (Stp.grow (same_upd hp))))⟩
    | _ => exact z.elim
  · cases x with
    | list ds => exact hq _ z
    | _ => exact z
end

/-! ### defs -/
abbrev SpD := List D → (D → Prop) → (Addr → Prop) → Prop
structure MonoSp (n : Nat) (sp : SpD) : Prop where
  imp : ∀ {ds : List D} {Q Q' : D → Prop} {E E' : Addr → Prop}, (∀ d, Q d → Q' d) → (∀ c, E c → E' c) → sp ds Q E → sp ds Q' E'
  len : ∀ {ds : List D} {Q : D → Prop} {E : Addr → Prop}, sp ds Q E → ds.length = n
/-- data in, data out -/
def lSp (K : PySem.W.Frag) (P : Program) (w : World) (sp : SpD) : Sp := fun vs H Q E => ∃ M ds, Dom M H ∧ RpA K P w M H vs ds ∧
  sp ds (fun d => ∀ v H', Same H H' → Rp K P w M H' v d → Q v H') fun c => ∀ H', Same H H' → E (.ref c) Option.none H'
/-- .. the draws first -/
def lSpT (K : PySem.W.Frag) (P : Program) (w : World) (sp : SpD) : Sp := fun vs H Q E => ∃ M g n us ds, vs = .ref g :: us ∧ Dom M H ∧ M g ∧ M n ∧ DrawsOk H g n ∧ RpA K P w M H us ds ∧
  sp ds (fun d => ∀ v H', (∀ a o, a ≠ g → a ≠ n → H a = some o → H' a = some o) → DrawsOk H' g n → Rp K P w M H' v d → Q v H')
    fun c => ∀ H', (∀ a o, a ≠ g → a ≠ n → H a = some o → H' a = some o) → DrawsOk H' g n → E (.ref c) Option.none H'
/-- a def at f, named x, keeps sp -/
structure FnD (P : Program) (w : World) (K : PySem.W.Frag) (mg : Str → Option Value) (base : Heap) (k : Nat) (x : Str) (n : Nat) (sp : SpD) : Prop where
  ex : ∃ (f : Addr) (fd : FuncData) (ps : List Str), FnOk P w K mg base (L2.CX P w) k f fd ps (lSp K P w sp) ∧ mg x = some (.ref f) ∧ PySem.W.keepIn K (.ref f) = true ∧ Binds K fd ps []
  mo : MonoSp n sp
structure FnT (P : Program) (w : World) (K : PySem.W.Frag) (mg : Str → Option Value) (base : Heap) (k : Nat) (x : Str) (n : Nat) (sp : SpD) : Prop where
  ex : ∃ (f : Addr) (fd : FuncData) (ps : List Str), FnOk P w K mg base (L2.CX P w) k f fd ps (lSpT K P w sp) ∧ mg x = some (.ref f) ∧ PySem.W.keepIn K (.ref f) = true ∧ Binds K fd ps []
  mo : MonoSp n sp
def wCall (sp : SpD) (u : TPA) : TP := fun r Q E => u r (fun ds => sp ds Q E) E
def wCallT (i : Nat) (sp : SpD) (u : TPA) : TP := fun r Q E => match slot r i with
  | .tok => u r (fun ds => sp ds Q E) E
  | _ => False
section
variable {X : Cx} {C : Ct} {W : XW} {e : Expr} {es : List Expr} {t : TP} {u : TPA} {pos p : Pos} {k j n : Nat} {x : Str} {sp : SpD}
theorem mono_call {m : Nat} (hu : MonoA m u) (hs : MonoSp n sp) : Mono (wCall sp u) := ⟨fun hq he q => hu.imp (fun ds _ z => hs.imp hq he z) he q⟩
theorem dv_call (G : Good X C W k) (F : FnD X.prog X.w X.K X.mg X.base j x n sp) (ha : DAv X C W (e :: es) u) (hj : j ≤ k := by decide) (hg : Gl X x := by rfl) (hdb : (x == ("__debug__" : Str)) = false := by decide)
    (he : starEach (e :: es) X.env = (false, eval e X.env) :: starEach es X.env := by rfl) (hpl : (backTo pos (starEach es X.env)).any (·.1) = false := by rfl) : DV X C W (.Call (.Name x p) (e :: es) [] pos) (wCall sp u) := by
  refine ⟨?_, mono_call ha.mo F.mo⟩
  obtain ⟨f, fd, ps, hF, hm, hk, hb⟩ := F.ex
  refine (pe_callS (E := W) hF (G.room.mono hj) hg hm hk hb G.pass ha.pa hdb he hpl).imp fun σ H Q ⟨M, r, E, S, hW, q⟩ => ⟨M, r, E, S, hW, ha.mo.imp (fun ds _ z vs H1 k1 S1 p1 => ?_) (fun _ z => z) q⟩
  have fit := G.fit
  obtain ⟨K, P, w, T, M0, H0⟩ := C
  obtain ⟨a, b, c⟩ := fit
  cases a; cases b; cases c
  exact ⟨M, ds, S1.dom, p1, F.mo.imp (fun d y v H2 s p2 => y v H2 (k1.trans (Same.ex s)) (S1.same s) p2) (fun c y H2 s => hW c H2 (k1.trans (Same.ex s)) (S1.same s) y) z⟩
theorem mono_callT {i m : Nat} (hu : MonoA m u) (hs : MonoSp n sp) : Mono (wCallT i sp u) := ⟨fun {r Q Q' E E'} hq he q => by
  unfold wCallT at q ⊢
  split at q
  · exact hu.imp (fun ds _ z => hs.imp hq he z) he q
  · exact q⟩
/-- f(draws, ..) -/
theorem dv_callT (i : Nat) {y : Str} {py : Pos} (G : Good X C W k) (F : FnT X.prog X.w X.K X.mg X.base j x n sp) (ha : DAv X C W es u) (hj : j ≤ k := by decide) (hN : X.N[i]? = some y := by rfl)
    (hv : Vis X.env.scope y := by first | exact Or.inl rfl | exact Or.inr (Or.inl rfl) | exact Or.inr (Or.inr rfl)) (hg : Gl X x := by rfl) (hdb : (x == ("__debug__" : Str)) = false := by decide)
    (he : starEach (.Name y py :: es) X.env = (false, eval (.Name y py) X.env) :: starEach es X.env := by rfl) (hpl : (backTo pos (starEach es X.env)).any (·.1) = false := by rfl)
    (hd : (y == ("__debug__" : Str)) = false := by decide) (hcd : (y == ("__classdict__" : Str)) = false := by decide) : DV X C W (.Call (.Name x p) (.Name y py :: es) [] pos) (wCallT i sp u) := by
  refine ⟨?_, mono_callT ha.mo F.mo⟩
  obtain ⟨f, fd, ps, hF, hm, hk, hb⟩ := F.ex
  refine (pe_callS (E := W) hF (G.room.mono hj) hg hm hk hb G.pass (pa_cons (pe_var (i := i) hN hv hd hcd) ha.pa he) hdb he hpl).imp fun σ H Q ⟨M, r, E, S, hW, q⟩ => ?_
  unfold wCallT at q
  split at q
  · rename_i et
    obtain ⟨g, nn, hT, eg⟩ := S.tk i (slot_get et (by simp))
    refine ⟨_, eg, M, r, E, S, hW, ha.mo.imp (fun ds _ z vs H1 k1 S1 p1 => ?_) (fun _ z => z) q⟩
    have fit := G.fit
    obtain ⟨K, P, w, T, M0, H0⟩ := C
    obtain ⟨a, b, c⟩ := fit
    cases a; cases b; cases c
    have hT : T = some (.dr g nn) := hT
    subst hT
    have tk : DrawsOk H1 g nn := S1.base.tok
    have inG : ∀ a : Addr, (Ct.mk X.K X.prog X.w (some (.dr g nn)) M0 H0).inT a ↔ (a = g ∨ a = nn) := fun a => Iff.rfl
    have ex : ∀ H2 : Hp, (∀ a o, a ≠ g → a ≠ nn → H1 a = some o → H2 a = some o) → (Ct.mk X.K X.prog X.w (some (.dr g nn)) M0 H0).Ex H1 H2 := fun H2 h a o na q => h a o (fun z => na (.inl z)) (fun z => na (.inr z)) q
    refine ⟨M, g, nn, vs, ds, rfl, S1.dom, S1.tm (.inl rfl), S1.tm (.inr rfl), tk, p1, F.mo.imp (fun d y v H2 s t2 p2 => ?_) (fun c y H2 s t2 => ?_) z⟩
    · exact y v H2 (k1.trans (ex H2 s)) (S1.grow (ex H2 s) t2) p2
    · exact hW c H2 (k1.trans (ex H2 s)) (S1.grow (ex H2 s) t2) y
  · exact q.elim

/-! ### built-ins -/
abbrev Bn := List D → (D → Prop) → Prop
structure MoB (g : Bn) : Prop where
  imp : ∀ {ds : List D} {Q Q' : D → Prop}, (∀ d, Q d → Q' d) → g ds Q → g ds Q'
def rDn (C : Ct) (g : Bn) : List V → Hp → VK → Prop := fun xs H Q => ∃ M ds, RqA C M H xs ds ∧ Dom M H ∧ g ds fun d => ∀ v H', Same H H' → C.Rp M H' v d → Q v H'
structure Blt (X : Cx) (C : Ct) (f : Value) (g : Bn) : Prop where
  ok : CallR X f (rDn C g)
  mo : MoB g
def wB (g : Bn) (u : TPA) : TP := fun r Q E => u r (fun ds => g ds Q) E
theorem mono_b {m : Nat} {g : Bn} (hu : MonoA m u) (hg : MoB g) : Mono (wB g u) := ⟨fun hq he q => hu.imp (fun ds _ z => hg.imp hq z) he q⟩
theorem run_b {g : Bn} (ha : DAq X C W es u) (hg : MoB g) {σ : L2.St} {H : Hp} {Q : VK} (q : lV C W (wB g u) σ H Q) : lAq C W u σ H fun vs H1 => rDn C g vs H1 Q := by
  obtain ⟨M, r, E, S, hW, q⟩ := q
  exact ⟨M, r, E, S, hW, ha.mo.imp (fun ds _ z vs H1 k1 S1 p1 => ⟨M, ds, p1, S1.dom, hg.imp (fun d y v H2 s p => y v H2 (k1.trans (Same.ex s)) (S1.same s) p) z⟩) (fun _ z => z) q⟩
theorem dv_callB {id : String} {g : Bn} (hc : Blt X C (.builtin id) g) (ha : DAq X C W (e :: es) u) (hm : X.mg x = none) (hv : bootBuiltins x = some (.builtin id)) (hg : Gl X x := by rfl) (hn : x ≠ "__name__" := by decide) (hdb : (x == ("__debug__" : Str)) = false := by decide)
    (he : starEach (e :: es) X.env = (false, eval e X.env) :: starEach es X.env := by rfl) (hpl : (backTo pos (starEach es X.env)).any (·.1) = false := by rfl) : DV X C W (.Call (.Name x p) (e :: es) [] pos) (wB g u) :=
  ⟨(pe_callB hc.ok hg hm hv ha.pa hn hdb he hpl).imp fun σ H Q q => run_b ha hc.mo q, mono_b ha.mo hc.mo⟩
theorem dv_callTy {T : String} {g : Bn} (hc : Blt X C (.type T) g) (ha : DAq X C W (e :: es) u) (hm : X.mg x = none) (hv : bootBuiltins x = some (.type T)) (hg : Gl X x := by rfl) (hn : x ≠ "__name__" := by decide) (hdb : (x == ("__debug__" : Str)) = false := by decide)
    (he : starEach (e :: es) X.env = (false, eval e X.env) :: starEach es X.env := by rfl) (hpl : (backTo pos (starEach es X.env)).any (·.1) = false := by rfl) : DV X C W (.Call (.Name x p) (e :: es) [] pos) (wB g u) :=
  ⟨(pe_callTy hc.ok hg hm hv ha.pa hn hdb he hpl).imp fun σ H Q q => run_b ha hc.mo q, mono_b ha.mo hc.mo⟩
theorem rq1 {M : Addr → Prop} {H : Hp} {vs : List V} {d : D} (h : RqA C M H vs [d]) : ∃ v, vs = [v] ∧ C.Rq M H v d := by
  cases h with
  | cons a b => cases b; exact ⟨_, rfl, a⟩
theorem rq2 {M : Addr → Prop} {H : Hp} {vs : List V} {d d' : D} (h : RqA C M H vs [d, d']) : ∃ v v', vs = [v, v'] ∧ C.Rq M H v d ∧ C.Rq M H v' d' := by
  cases h with
  | cons a b =>
    obtain ⟨v, rfl, q⟩ := rq1 b
    exact ⟨_, v, rfl, a, q⟩
def gLenS : Bn
  | [.list ds], Q => Q (.int ds.length)
  | [.tuple ds], Q => Q (.int ds.length)
  | [.str z], Q => z.length ≤ sizeLine ∧ Q (.int z.length)
  | _, _ => False
theorem b_lenS (F : Fit X C) : Blt X C (.builtin "len") gLenS := by
  refine ⟨?_, ⟨fun {ds Q Q'} hq h => ?_⟩⟩
  · refine fit_cases (X := X) (motive := fun C => CallR X (.builtin "len") (rDn C gLenS)) (fun T M0 H0 => ?_) C F
    refine (call_len_seq.or call_len_str).imp fun xs H Q ⟨M, ds, r, dm, h⟩ => ?_
    unfold gLenS at h
    split at h
    · obtain ⟨v, rfl, r1⟩ := rq1 r
      obtain ⟨a, ys, rfl, e1, p1⟩ := r1.lst
      refine .inl ⟨a, ys, rfl, .inl (SqL.of e1), ?_⟩
      rw [HC.RpA.length p1]
      exact h _ _ Same.refl' (.int _)
    · obtain ⟨v, rfl, r1⟩ := rq1 r
      obtain ⟨a, ys, rfl, e1, p1⟩ := r1.tup
      refine .inl ⟨a, ys, rfl, .inr e1, ?_⟩
      rw [HC.RpA.length p1]
      exact h _ _ Same.refl' (.int _)
    · obtain ⟨v, rfl, r1⟩ := rq1 r
      exact .inr ⟨_, by rw [r1.str], h.1, h.2 _ _ Same.refl' (.int _)⟩
    · exact h.elim
  · unfold gLenS at h ⊢
    split at h <;> first | exact hq _ h | exact ⟨h.1, hq _ h.2⟩ | exact h
/-- the ints of a list -/
def dInts : List D → Option (List Int)
  | [] => some []
  | .int i :: r => (dInts r).map (i :: ·)
  | _ :: _ => none
theorem ints_map : ∀ ns : List Int, dInts (ns.map D.int) = some ns
  | [] => rfl
  | n :: r => by
    show (dInts (r.map D.int)).map (n :: ·) = _
    rw [ints_map r]
    rfl
theorem of_ints : ∀ {ds : List D} {ns : List Int}, dInts ds = some ns → ds = ns.map D.int
  | [], _, h => by cases h; rfl
  | .int i :: r, ns, h => by
    unfold dInts at h
    cases q : dInts r with
    | none => rw [q] at h; cases h
    | some ms => rw [q] at h; cases h; rw [of_ints q]; rfl
  | .none :: _, _, h => by cases h
  | .bool _ :: _, _, h => by cases h
  | .str _ :: _, _, h => by cases h
  | .list _ :: _, _, h => by cases h
  | .tuple _ :: _, _, h => by cases h
  | .dict _ :: _, _, h => by cases h
  | .tdict _ :: _, _, h => by cases h
  | .exc _ :: _, _, h => by cases h
  | .kdict _ :: _, _, h => by cases h
theorem HC.RpA.ofInts {K : PySem.W.Frag} {P : Program} {w : World} {M : Addr → Prop} {H : Hp} : ∀ {vs : List V} {ns : List Int}, RpA K P w M H vs (ns.map D.int) → vs = ns.map V.int
  | _, [], .nil => rfl
  | _, n :: r, .cons a b => by
    cases a
    rw [HC.RpA.ofInts b]
    rfl
def IsMax (m : Int) (ns : List Int) : Prop := m ∈ ns ∧ ∀ y ∈ ns, y ≤ m
def IsMin (m : Int) (ns : List Int) : Prop := m ∈ ns ∧ ∀ y ∈ ns, m ≤ y
def gMin : Bn
  | [.int a, .int b], Q => Q (.int (if b < a then b else a))
  | [.list ds], Q => ∃ ns, dInts ds = some ns ∧ 0 < ns.length ∧ ∀ m, IsMin m ns → Q (.int m)
  | _, _ => False
def gMax : Bn
  | [.int a, .int b], Q => Q (.int (if b > a then b else a))
  | [.list ds], Q => ∃ ns, dInts ds = some ns ∧ 0 < ns.length ∧ ∀ m, IsMax m ns → Q (.int m)
  | _, _ => False
theorem b_min (G : Good X C W k) : Blt X C (.builtin "min") gMin := by
  refine ⟨?_, ⟨fun {ds Q Q'} hq h => ?_⟩⟩
  · refine fit_cases (X := X) (motive := fun C => CallR X (.builtin "min") (rDn C gMin)) (fun T M0 H0 => ?_) C G.fit
    refine ((call_min2 G.calm).or (cr_min G.calm)).imp fun xs H Q ⟨M, ds, r, dm, h⟩ => ?_
    unfold gMin at h
    split at h
    · obtain ⟨v, v', rfl, r1, r2⟩ := rq2 r
      exact .inl ⟨_, _, by rw [r1.int, r2.int], h _ _ Same.refl' (.int _)⟩
    · obtain ⟨ns, e, hl, h⟩ := h
      obtain ⟨v, rfl, r1⟩ := rq1 r
      obtain ⟨a, ys, rfl, e1, p1⟩ := r1.lst
      cases of_ints e
      rw [HC.RpA.ofInts p1] at e1
      exact .inr ⟨a, ns, rfl, SqL.of e1, hl, fun m h1 h2 => h m ⟨h1, h2⟩ _ _ Same.refl' (.int _)⟩
    · exact h.elim
  · unfold gMin at h ⊢
    split at h
    · exact hq _ h
    · exact let ⟨ns, e, l, q⟩ := h; ⟨ns, e, l, fun m z => hq _ (q m z)⟩
    · exact h
theorem b_max (G : Good X C W k) : Blt X C (.builtin "max") gMax := by
  refine ⟨?_, ⟨fun {ds Q Q'} hq h => ?_⟩⟩
  · refine fit_cases (X := X) (motive := fun C => CallR X (.builtin "max") (rDn C gMax)) (fun T M0 H0 => ?_) C G.fit
    refine ((call_max2 G.calm).or (cr_max G.calm)).imp fun xs H Q ⟨M, ds, r, dm, h⟩ => ?_
    unfold gMax at h
    split at h
    · obtain ⟨v, v', rfl, r1, r2⟩ := rq2 r
      exact .inl ⟨_, _, by rw [r1.int, r2.int], h _ _ Same.refl' (.int _)⟩
    · obtain ⟨ns, e, hl, h⟩ := h
      obtain ⟨v, rfl, r1⟩ := rq1 r
      obtain ⟨a, ys, rfl, e1, p1⟩ := r1.lst
      cases of_ints e
      rw [HC.RpA.ofInts p1] at e1
      exact .inr ⟨a, ns, rfl, SqL.of e1, hl, fun m h1 h2 => h m ⟨h1, h2⟩ _ _ Same.refl' (.int _)⟩
    · exact h.elim
  · unfold gMax at h ⊢
    split at h
    · exact hq _ h
    · exact let ⟨ns, e, l, q⟩ := h; ⟨ns, e, l, fun m z => hq _ (q m z)⟩
    · exact h
def gSum : Bn
  | [.list ds], Q => ∃ ns, dInts ds = some ns ∧ Q (.int ns.sum)
  | _, _ => False
theorem b_sum (G : Good X C W k) : Blt X C (.builtin "sum") gSum := by
  refine ⟨?_, ⟨fun {ds Q Q'} hq h => ?_⟩⟩
  · refine fit_cases (X := X) (motive := fun C => CallR X (.builtin "sum") (rDn C gSum)) (fun T M0 H0 => ?_) C G.fit
    refine (cr_sum G.calm).imp fun xs H Q ⟨M, ds, r, dm, h⟩ => ?_
    unfold gSum at h
    split at h
    · obtain ⟨ns, e, h⟩ := h
      obtain ⟨v, rfl, r1⟩ := rq1 r
      obtain ⟨a, ys, rfl, e1, p1⟩ := r1.lst
      cases of_ints e
      rw [HC.RpA.ofInts p1] at e1
      exact ⟨a, ns, rfl, SqL.of e1, h _ _ Same.refl' (.int _)⟩
    · exact h.elim
  · unfold gSum at h ⊢
    split at h
    · exact let ⟨ns, e, q⟩ := h; ⟨ns, e, hq _ q⟩
    · exact h
/-- the bools of a list -/
def dBools : List D → Option (List Bool)
  | [] => some []
  | .bool i :: r => (dBools r).map (i :: ·)
  | _ :: _ => none
theorem bools_map : ∀ ns : List Bool, dBools (ns.map D.bool) = some ns
  | [] => rfl
  | n :: r => by
    show (dBools (r.map D.bool)).map (n :: ·) = _
    rw [bools_map r]
    rfl
theorem of_bools : ∀ {ds : List D} {ns : List Bool}, dBools ds = some ns → ds = ns.map D.bool
  | [], _, h => by cases h; rfl
  | .bool i :: r, ns, h => by
    unfold dBools at h
    cases q : dBools r with
    | none => rw [q] at h; cases h
    | some ms => rw [q] at h; cases h; rw [of_bools q]; rfl
  | .none :: _, _, h => by cases h
  | .int _ :: _, _, h => by cases h
  | .str _ :: _, _, h => by cases h
  | .list _ :: _, _, h => by cases h
  | .tuple _ :: _, _, h => by cases h
  | .dict _ :: _, _, h => by cases h
  | .tdict _ :: _, _, h => by cases h
  | .exc _ :: _, _, h => by cases h
  | .kdict _ :: _, _, h => by cases h
theorem HC.RpA.ofBools {K : PySem.W.Frag} {P : Program} {w : World} {M : Addr → Prop} {H : Hp} : ∀ {vs : List V} {ns : List Bool}, RpA K P w M H vs (ns.map D.bool) → vs = ns.map V.bl
  | _, [], .nil => rfl
  | _, n :: r, .cons a b => by
    cases a
    rw [HC.RpA.ofBools b]
    rfl
def gAll : Bn
  | [.list ds], Q => ∃ ns, dBools ds = some ns ∧ Q (.bool (ns.all id))
  | _, _ => False
def gAny : Bn
  | [.list ds], Q => ∃ ns, dBools ds = some ns ∧ Q (.bool (ns.any id))
  | _, _ => False
theorem b_all (G : Good X C W k) : Blt X C (.builtin "all") gAll := by
  refine ⟨?_, ⟨fun {ds Q Q'} hq h => ?_⟩⟩
  · refine fit_cases (X := X) (motive := fun C => CallR X (.builtin "all") (rDn C gAll)) (fun T M0 H0 => ?_) C G.fit
    refine (cr_all G.calm).imp fun xs H Q ⟨M, ds, r, dm, h⟩ => ?_
    unfold gAll at h
    split at h
    · obtain ⟨ns, e, h⟩ := h
      obtain ⟨v, rfl, r1⟩ := rq1 r
      obtain ⟨a, ys, rfl, e1, p1⟩ := r1.lst
      cases of_bools e
      rw [HC.RpA.ofBools p1] at e1
      exact ⟨a, ns, rfl, SqL.of e1, h _ _ Same.refl' (.bl _)⟩
    · exact h.elim
  · unfold gAll at h ⊢
    split at h
    · exact let ⟨ns, e, q⟩ := h; ⟨ns, e, hq _ q⟩
    · exact h
theorem b_any (G : Good X C W k) : Blt X C (.builtin "any") gAny := by
  refine ⟨?_, ⟨fun {ds Q Q'} hq h => ?_⟩⟩
  · refine fit_cases (X := X) (motive := fun C => CallR X (.builtin "any") (rDn C gAny)) (fun T M0 H0 => ?_) C G.fit
    refine (cr_any G.calm).imp fun xs H Q ⟨M, ds, r, dm, h⟩ => ?_
    unfold gAny at h
    split at h
    · obtain ⟨ns, e, h⟩ := h
      obtain ⟨v, rfl, r1⟩ := rq1 r
      obtain ⟨a, ys, rfl, e1, p1⟩ := r1.lst
      cases of_bools e
      rw [HC.RpA.ofBools p1] at e1
      exact ⟨a, ns, rfl, SqL.of e1, h _ _ Same.refl' (.bl _)⟩
    · exact h.elim
  · unfold gAny at h ⊢
    split at h
    · exact let ⟨ns, e, q⟩ := h; ⟨ns, e, hq _ q⟩
    · exact h
/-- list(x), tuple(x) of a list or a tuple -/
def gList : Bn
  | [.list ds], Q => Q (.list ds)
  | [.tuple ds], Q => Q (.list ds)
  | _, _ => False
def gTuple : Bn
  | [.list ds], Q => Q (.tuple ds)
  | [.tuple ds], Q => Q (.tuple ds)
  | _, _ => False
theorem b_list (F : Fit X C) : Blt X C (.type "list") gList := by
  refine ⟨?_, ⟨fun {ds Q Q'} hq h => ?_⟩⟩
  · refine fit_cases (X := X) (motive := fun C => CallR X (.type "list") (rDn C gList)) (fun T M0 H0 => ?_) C F
    refine call_list_of.imp fun xs H Q ⟨M, ds, r, dm, h⟩ => ?_
    unfold gList at h
    split at h
    · obtain ⟨v, rfl, r1⟩ := rq1 r
      obtain ⟨a, ys, rfl, e1, p1⟩ := r1.lst
      exact ⟨a, ys, rfl, .inl (SqL.of e1), fun l hl => h _ _ (same_upd hl) (.lst (dm.fresh hl) upd_same (HC.RpA.step (Stp.grow (same_upd hl)) p1))⟩
    · obtain ⟨v, rfl, r1⟩ := rq1 r
      obtain ⟨a, ys, rfl, e1, p1⟩ := r1.tup
      exact ⟨a, ys, rfl, .inr e1, fun l hl => h _ _ (same_upd hl) (.lst (dm.fresh hl) upd_same (HC.RpA.step (Stp.grow (same_upd hl)) p1))⟩
    · exact h.elim
  · unfold gList at h ⊢
    split at h <;> first | exact hq _ h | exact h
theorem b_tuple (F : Fit X C) : Blt X C (.type "tuple") gTuple := by
  refine ⟨?_, ⟨fun {ds Q Q'} hq h => ?_⟩⟩
  · refine fit_cases (X := X) (motive := fun C => CallR X (.type "tuple") (rDn C gTuple)) (fun T M0 H0 => ?_) C F
    refine call_tuple_of.imp fun xs H Q ⟨M, ds, r, dm, h⟩ => ?_
    unfold gTuple at h
    split at h
    · obtain ⟨v, rfl, r1⟩ := rq1 r
      obtain ⟨a, ys, rfl, e1, p1⟩ := r1.lst
      exact ⟨a, ys, rfl, .inl ⟨SqL.of e1, fun l hl => h _ _ (same_upd hl) (.tup (dm.fresh hl) upd_same (HC.RpA.step (Stp.grow (same_upd hl)) p1))⟩⟩
    · obtain ⟨v, rfl, r1⟩ := rq1 r
      obtain ⟨a, ys, rfl, e1, p1⟩ := r1.tup
      exact ⟨a, ys, rfl, .inr ⟨e1, h _ _ Same.refl' r1.tupRp⟩⟩
    · exact h.elim
  · unfold gTuple at h ⊢
    split at h <;> first | exact hq _ h | exact h
def gAbs : Bn
  | [.int i], Q => Q (.int (if i < 0 then -i else i))
  | _, _ => False
theorem b_abs : Blt X C (.builtin "abs") gAbs := by
  refine ⟨call_abs.imp fun xs H Q ⟨M, ds, r, dm, h⟩ => ?_, ⟨fun {ds Q Q'} hq h => ?_⟩⟩
  · unfold gAbs at h
    split at h
    · obtain ⟨v, rfl, r1⟩ := rq1 r
      exact ⟨_, by rw [r1.int], h _ _ Same.refl' (.int _)⟩
    · exact h.elim
  · unfold gAbs at h ⊢
    split at h <;> first | exact hq _ h | exact h

/-! ### isinstance(x, T), T one of int, bool, str, tuple, list -/
def isT (T : String) : D → Option Bool
  | .none => kitB "NoneType" T
  | .bool _ => kitB "bool" T
  | .int _ => kitB "int" T
  | .str _ => kitB "str" T
  | .list _ => kitB "list" T
  | .tuple _ => kitB "tuple" T
  | _ => Option.none
def wIsi (T : String) (t : TP) : TP := fun r Q E => t r (fun x => ∃ b, isT T x = some b ∧ Q (.bool b)) E
theorem ty_of (F : Fit X C) {M : Addr → Prop} {H : Hp} {v : V} {d : D} {T : String} {b : Bool} (r : C.Rq M H v d) (h : isT T d = some b) : ∃ t, TyX X.K H v (.type t) ∧ kitB t T = some b := by
  have F' := F
  obtain ⟨K, P, w, T', M0, H0⟩ := C
  obtain ⟨a, b', c⟩ := F'
  cases a; cases b'; cases c
  cases d with
  | none => rw [r.non]; exact ⟨_, .base .non, h⟩
  | bool i => rw [r.bl]; exact ⟨_, .base (.bl _), h⟩
  | int i => rw [r.int]; exact ⟨_, .base (.int _), h⟩
  | str i => rw [r.str]; exact ⟨_, .base (.str _), h⟩
  | list ds =>
    obtain ⟨a, xs, rfl, e, _⟩ := r.lst
    exact ⟨_, .base (.lst e), h⟩
  | tuple ds =>
    obtain ⟨a, xs, rfl, e, _⟩ := r.tup
    rcases e with (e | ⟨o, e⟩) | ⟨o, its, n, e1, e2, _⟩
    · exact ⟨_, .base (.tup e), h⟩
    · exact ⟨_, .fTuple e, h⟩
    · exact ⟨_, .kTuple e1 e2, h⟩
  | dict _ => cases h
  | tdict _ => cases h
  | exc _ => cases h
  | kdict _ => cases h
theorem dv_isi {T : String} {y : Str} {p1 : Pos} (G : Good X C W k) (ha : DE X C W e t) (m1 : X.mg "isinstance" = none) (m2 : X.mg y = none) (hv : bootBuiltins y = some (.type T)) (hg : Gl X "isinstance" := by rfl) (hg2 : Gl X y := by rfl)
    (hn : y ≠ "__name__" := by decide) (hd : (y == ("__debug__" : Str)) = false := by decide)
    (he : starEach [e, .Name y p1] X.env = (false, eval e X.env) :: starEach [.Name y p1] X.env := by rfl) (hpl : (backTo pos (starEach [.Name y p1] X.env)).any (·.1) = false := by rfl) :
    DV X C W (.Call (.Name "isinstance" p) [e, .Name y p1] [] pos) (wIsi T t) := by
  refine ⟨(pe_callB call_isi hg m1 (by decide +kernel) (pa_cons ha.pe (pa_cons (pe_bltn hg2 m2 hv (v := .ty T) rfl hn hd) pa_nil) he) (by decide) (by decide) he hpl).imp fun σ H Q ⟨M, r, E, S, hW, q⟩ => ⟨M, r, E, S, hW, ha.mo.imp (fun x z v H1 k1 S1 p1 => ?_) (fun _ z => z) q⟩,
    ⟨fun hq he' q => ha.mo.imp (fun x z => let ⟨b, h1, h2⟩ := z; ⟨b, h1, hq _ h2⟩) he' q⟩⟩
  obtain ⟨b, h1, h2⟩ := z
  obtain ⟨tt, h3, h4⟩ := ty_of G.fit p1 h1
  exact ⟨v, .ty T, .type tt, .type T, b, rfl, .ty T, h3, kit_ty h4, h2 _ H1 k1 S1 (.bl b)⟩
end
end HC
/-! HC5: what a slot gets (values, new objects), targets, statements, loops. -/
namespace HC
open PySem PySem.Spec PyProof.Rows L2

/-! ### what an assignment's right side gives: a value, or a new object that only the slot will hold -/
/-- M may have got new ones -/
structure Grow (M M' : Addr → Prop) (H : Hp) : Prop where
  up : ∀ a, M a → M' a
  nw : ∀ a, M' a → M a ∨ H a = none
theorem Grow.refl {M : Addr → Prop} {H : Hp} : Grow M M H := ⟨fun _ h => h, fun _ h => .inl h⟩
theorem Grow.stp {C : Ct} {M M' : Addr → Prop} {r : Env} {σ : L2.St} {H H' : Hp} (g : Grow M M' H) (S : Sim C M r σ H) (k : C.Ex H H') : Stp M H M' H' := fun a o e m =>
  ⟨k a o (fun t => m (S.tm t)) e, fun z => (g.nw a z).elim m fun q => by rw [e] at q; cases q⟩
theorem Grow.trans {C : Ct} {M M1 M2 : Addr → Prop} {H H1 : Hp} (a : Grow M M1 H) (b : Grow M1 M2 H1) (k : C.Ex H H1) (nt : ∀ x, C.inT x → M x) : Grow M M2 H :=
  ⟨fun x h => b.up x (a.up x h), fun x h => by
    rcases b.nw x h with h | h
    · exact a.nw x h
    · by_cases ht : C.inT x
      · exact .inl (nt x ht)
      · right
        cases q : H x with
        | none => rfl
        | some o => rw [k x o ht q] at h; cases h⟩
/-- a slot's content at a value -/
inductive SlR (C : Ct) (M : Addr → Prop) (H : Hp) (N : Addr → Prop) : V → Sl → Prop
  | val {v : V} {d : D} : C.Rp M H v d → SlR C M H N v (.val d)
  | own {a : Addr} {d : D} : M a → N a → C.Top M H a d → SlR C M H N (.ref a) (.own d)
abbrev TX := Env → (Sl → Prop) → (Addr → Prop) → Prop
structure MonoX (t : TX) : Prop where
  imp : ∀ {r : Env} {Q Q' : Sl → Prop} {E E' : Addr → Prop}, (∀ d, Q d → Q' d) → (∀ c, E c → E' c) → t r Q E → t r Q' E'
def lX (C : Ct) (W : XW) (t : TX) : TE := fun σ H Q => ∃ M r E, Sim C M r σ H ∧ Wish C W M r σ H E ∧ t r (fun s => ∀ v M' H', C.Ex H H' → Grow M M' H → Sim C M' r σ H' → SlR C M' H' (fun a => H a = none) v s → Q v H') E
structure DX (X : Cx) (C : Ct) (W : XW) (e : Expr) (t : TX) : Prop where
  pe : PE X e (lX C W t)
  mo : MonoX t
def xVal (t : TP) : TX := fun r Q E => t r (fun d => Q (.val d)) E
section
variable {X : Cx} {C : Ct} {W : XW} {e : Expr} {es : List Expr} {t : TP} {u : TPA} {pos : Pos} {k : Nat}
theorem DV.x (h : DV X C W e t) : DX X C W e (xVal t) :=
  ⟨h.pe.imp fun σ H Q ⟨M, r, E, S, hW, q⟩ => ⟨M, r, E, S, hW, h.mo.imp (fun d z v H' k S' p => z v M H' k Grow.refl S' (.val p)) (fun _ z => z) q⟩, ⟨fun hq he q => h.mo.imp (fun d z => hq _ z) he q⟩⟩
/-- a new object at p, held by nobody -/
theorem Sim.take {M : Addr → Prop} {r : Env} {σ : L2.St} {H H' : Hp} (S : Sim C M r σ H) {p : Addr} (hp : H p = none) (k : Same H H') (hs : H' p ≠ none) : Sim C (fun a => M a ∨ a = p) r σ H' := by
  have S1 := S.same k
  have st : Stp M H (fun a => M a ∨ a = p) H' := fun a o e m => ⟨k a o e, fun z => z.elim m fun q => by rw [q, hp] at e; cases e⟩
  refine ⟨S.len, fun i d e => ?_, fun i d e => ?_, S.sep, S.tk, ⟨S1.base.keep, tok_step st (S.reg k) S.base.tok⟩, fun a m => .inl (S.m0 a m), fun a m => ?_, S.inm⟩
  · obtain ⟨v, h1, h2⟩ := S.val i d e
    exact ⟨v, h1, h2.step st⟩
  · obtain ⟨a, h1, h2, h3, h4, h5⟩ := S.own i d e
    exact ⟨a, h1, .inl h2, h3, h4, h5.step st fun o q => k a o q⟩
  · rcases m with m | rfl
    · exact S1.dom a m
    · exact hs
/-- a name is not in H0, not M0's: it was not there -/
theorem Sim.newH0 {M : Addr → Prop} {r : Env} {σ : L2.St} {H : Hp} (S : Sim C M r σ H) {p : Addr} (hp : H p = none) : C.H0 p = none ∧ ¬ C.M0 p := by
  have nm : ¬ C.M0 p := fun m => S.dom p (S.m0 p m) hp
  refine ⟨?_, nm⟩
  cases q : C.H0 p with
  | none => rfl
  | some o =>
    have ht : ¬ C.inT p := fun t => nm (S.inm p t)
    rw [S.base.keep p o ht q] at hp; cases hp
/-- [..] that a slot will hold alone -/
def xLst (u : TPA) : TX := fun r Q E => u r (fun ds => Q (.own (.list ds))) E
theorem dx_lst (h : DAv X C W es u) (hl : es.length ≤ 1000 := by decide) : DX X C W (.List es pos) (xLst u) := by
  refine ⟨(pe_lst h.pa).imp fun σ H Q ⟨M, r, E, S, hW, q⟩ => ⟨M, r, E, S, hW, h.mo.imp (fun ds hd z vs H1 k1 S1 p1 => ⟨le1000 (by rw [HC.RpA.length p1, hd]; exact hl), fun p hp => ?_⟩) (fun _ z => z) q⟩, ⟨fun hq he q => h.mo.imp (fun _ _ z => hq _ z) he q⟩⟩
  have S2 := S1.take (p := p) (H' := upd H1 p (.lst vs)) hp (same_upd hp) (by rw [upd_same]; simp)
  have hp0 : H p = none := by
    by_cases ht : C.inT p
    · exact absurd hp (S1.dom p (S1.tm ht))
    · cases q : H p with
      | none => rfl
      | some o => rw [k1 p o ht q] at hp; cases hp
  refine z _ (fun a => M a ∨ a = p) _ (k1.trans (Same.ex (same_upd hp))) ⟨fun a m => .inl m, fun a m => m.elim .inl fun e => .inr (e ▸ hp0)⟩ S2 (.own (.inr rfl) hp0 (.lst upd_same ?_))
  exact HC.RpA.step (fun a o e m => ⟨same_upd hp a o e, fun z => z.elim m fun q => by rw [q, hp] at e; cases e⟩) p1
end

/-! ### targets -/
abbrev GD := D → Env → Option Env
def lG (C : Ct) (is : List Nat) (g : GD) : TG := fun v σ H Q => ∃ M r d r', Sim C M r σ H ∧ C.Rp M H v d ∧ g d r = some r' ∧ ∀ σ', Sim C M r' σ' H → (∀ vs : List Nat, (∀ i ∈ is, i ∈ vs) → wipe σ' vs = wipe σ vs) → Q σ' H
structure DG (X : Cx) (C : Ct) (tg : Expr) (is : List Nat) (g : GD) : Prop where
  pg : PG X tg (lG C is g)
def gN (i : Nat) : GD := fun d r => some (r.set i (.val d))
theorem Sim.set {C : Ct} {M : Addr → Prop} {r : Env} {σ : L2.St} {H : Hp} (S : Sim C M r σ H) {i : Nat} {v : V} {d : D} (p : C.Rp M H v d) : Sim C M (r.set i (.val d)) (σ.set i (some v)) H := by
  have hl : (r.set i (.val d)).length = r.length := List.length_set ..
  refine ⟨by rw [List.length_set, List.length_set]; exact S.len, fun j e q => ?_, fun j e q => ?_, fun a b x y c q1 q2 q3 q4 => ?_, fun j q => ?_, S.base, S.m0, S.dom, S.inm⟩
  · by_cases hj : i = j
    · subst hj
      by_cases hi : i < r.length
      · rw [List.getElem?_set_self hi] at q
        cases q
        exact ⟨v, List.getElem?_set_self (by rw [S.len]; exact hi), p⟩
      · rw [List.getElem?_eq_none (by rw [hl]; omega)] at q; cases q
    · rw [List.getElem?_set_ne hj] at q ⊢
      exact S.val j e q
  · by_cases hj : i = j
    · subst hj
      by_cases hi : i < r.length
      · rw [List.getElem?_set_self hi] at q; cases q
      · rw [List.getElem?_eq_none (by rw [hl]; omega)] at q; cases q
    · rw [List.getElem?_set_ne hj] at q ⊢
      exact S.own j e q
  · have ne : ∀ {j x}, (r.set i (.val d))[j]? = some (.own x) → i ≠ j := fun {j x} q z => by
      subst z
      by_cases hi : i < r.length
      · rw [List.getElem?_set_self hi] at q; cases q
      · rw [List.getElem?_eq_none (by rw [hl]; omega)] at q; cases q
    have n1 := ne q1
    have n2 := ne q2
    rw [List.getElem?_set_ne n1] at q1 q3
    rw [List.getElem?_set_ne n2] at q2 q4
    exact S.sep a b x y c q1 q2 q3 q4
  · by_cases hj : i = j
    · subst hj
      by_cases hi : i < r.length
      · rw [List.getElem?_set_self hi] at q; cases q; exact trivial
      · rw [List.getElem?_eq_none (by rw [hl]; omega)] at q; cases q
    · rw [List.getElem?_set_ne hj] at q ⊢
      exact S.tk j q
/-- a slot gets a new object of its own -/
theorem Sim.setOwn {C : Ct} {M : Addr → Prop} {r : Env} {σ : L2.St} {H : Hp} (S : Sim C M r σ H) {i : Nat} {a : Addr} {d : D} (m : M a) (h0 : C.H0 a = none) (m0 : ¬ C.M0 a) (p : C.Top M H a d) (nw : ∀ (j : Nat) (e : D), r[j]? = some (.own e) → σ[j]? = some (some (.ref a)) → i = j) :
    Sim C M (r.set i (.own d)) (σ.set i (some (.ref a))) H := by
  have hl : (r.set i (.own d)).length = r.length := List.length_set ..
  have out : ∀ {j : Nat} {x : Sl}, ¬ i < r.length → (r.set i (.own d))[j]? = some x → i = j → False := fun {j x} hi q z => by
    subst z
    rw [List.getElem?_eq_none (by rw [hl]; omega)] at q; cases q
  refine ⟨by rw [List.length_set, List.length_set]; exact S.len, fun j e q => ?_, fun j e q => ?_, fun j b x y c q1 q2 q3 q4 => ?_, fun j q => ?_, S.base, S.m0, S.dom, S.inm⟩
  · by_cases hj : i = j
    · by_cases hi : i < r.length
      · subst hj
        rw [List.getElem?_set_self hi] at q; cases q
      · exact (out hi q hj).elim
    · rw [List.getElem?_set_ne hj] at q ⊢
      exact S.val j e q
  · by_cases hj : i = j
    · by_cases hi : i < r.length
      · subst hj
        rw [List.getElem?_set_self hi] at q
        cases q
        exact ⟨a, List.getElem?_set_self (by rw [S.len]; exact hi), m, h0, m0, p⟩
      · exact (out hi q hj).elim
    · rw [List.getElem?_set_ne hj] at q ⊢
      exact S.own j e q
  · by_cases h1 : i = j
    · by_cases h2 : i = b
      · omega
      · by_cases hi : i < r.length
        · rw [List.getElem?_set_ne h2] at q2 q4
          rw [← h1, List.getElem?_set_self (by rw [S.len]; exact hi)] at q3
          cases q3
          exact absurd (nw b y q2 q4) h2
        · exact (out hi q1 h1).elim
    · by_cases h2 : i = b
      · by_cases hi : i < r.length
        · rw [List.getElem?_set_ne h1] at q1 q3
          rw [← h2, List.getElem?_set_self (by rw [S.len]; exact hi)] at q4
          cases q4
          exact absurd (nw j x q1 q3) h1
        · exact (out hi q2 h2).elim
      · rw [List.getElem?_set_ne h1] at q1 q3
        rw [List.getElem?_set_ne h2] at q2 q4
        exact S.sep j b x y c q1 q2 q3 q4
  · by_cases hj : i = j
    · by_cases hi : i < r.length
      · subst hj
        rw [List.getElem?_set_self hi] at q; cases q; exact trivial
      · exact (out hi q hj).elim
    · rw [List.getElem?_set_ne hj] at q ⊢
      exact S.tk j q
theorem wipe_set {σ : L2.St} {i : Nat} {x : Option V} : ∀ {vs : List Nat}, i ∈ vs → wipe (σ.set i x) vs = wipe σ vs
  | [], h => by simp at h
  | v :: vs, h => by
    unfold wipe
    by_cases hv : i ∈ vs
    · rw [wipe_set hv]
    · have e : i = v := by
        rcases List.mem_cons.mp h with e | e
        · exact e
        · exact absurd e hv
      subst e
      have : ∀ ws : List Nat, i ∉ ws → wipe (σ.set i x) ws = (wipe σ ws).set i x := by
        intro ws
        induction ws with
        | nil => intro _; rfl
        | cons y ys ih =>
          intro hn
          simp only [List.mem_cons, not_or] at hn
          unfold wipe
          rw [ih hn.2, List.set_comm _ _ hn.1]
      rw [this vs hv, List.set_set]
section
variable {X : Cx} {C : Ct} {W : XW} {pos : Pos} {k : Nat}
theorem dg_name (i : Nat) {x : Str} (hN : X.N.Nodup) (hi : X.N[i]? = some x := by rfl) (hx : Loc X.env.scope x := by first | exact Or.inl rfl | exact Or.inr rfl) (hf : X.fn x = true ∨ X.env.scope.names.lookup x = some .local := by first | exact .inl rfl | exact .inr rfl | assumption) : DG X C (.Name x pos) [i] (gN i) := by
  refine ⟨(pg_name hN hi hx hf).imp fun v σ H Q ⟨M, r, d, r', S, p, e, q⟩ => ?_⟩
  cases e
  exact q _ (S.set p) fun vs h => wipe_set (h i (by simp))
/-- several targets -/
abbrev GDs := List D → Env → Option Env
def lGs (C : Ct) (is : List Nat) (g : GDs) : TGs := fun vs σ H Q => ∃ M r ds r', Sim C M r σ H ∧ C.RpA M H vs ds ∧ g ds r = some r' ∧ ∀ σ', Sim C M r' σ' H → (∀ vs : List Nat, (∀ i ∈ is, i ∈ vs) → wipe σ' vs = wipe σ vs) → Q σ' H
structure DGs (X : Cx) (C : Ct) (tgs : List Expr) (is : List Nat) (n : Nat) (g : GDs) : Prop where
  pg : PGs X tgs (lGs C is g)
  len : ∀ {ds : List D} {r r' : Env}, g ds r = some r' → ds.length = n
def gNil' : GDs := fun ds r => match ds with
  | [] => some r
  | _ :: _ => Option.none
def gCons' (g : GD) (h : GDs) : GDs := fun ds r => match ds with
  | [] => Option.none
  | d :: ds => match g d r with
    | some r1 => h ds r1
    | Option.none => Option.none
def gT (h : GDs) : GD := fun d r => match d with
  | .tuple ds => h ds r
  | _ => Option.none
theorem _root_.L2.PGs.imp {X : Cx} {e : List Expr} {t t' : TGs} (h : PGs X e t) (hi : ∀ v σ H Q, t' v σ H Q → t v σ H Q) : PGs X e t' := ⟨fun pins s σ H v u Q I r q => h.run pins s σ H v u Q I r (hi _ _ _ _ q)⟩
theorem dgs_nil : DGs X C [] [] 0 gNil' := by
  refine ⟨pgs_nil.imp fun vs σ H Q ⟨M, r, ds, r', S, p, e, q⟩ => ?_, fun {ds r r'} h => ?_⟩
  · cases ds with
    | nil => cases p; cases e; exact ⟨rfl, q σ S fun _ _ => rfl⟩
    | cons _ _ => cases e
  · cases ds with
    | nil => rfl
    | cons _ _ => cases h
theorem dgs_cons {tg : Expr} {tgs : List Expr} {is js : List Nat} {n : Nat} {g : GD} {h : GDs} (h1 : DG X C tg is g) (h2 : DGs X C tgs js n h)
    (hs : (assignEach (tg :: tgs) X.env).map (·.2) = assign tg X.env :: (assignEach tgs X.env).map (·.2) := by rfl) : DGs X C (tg :: tgs) (is ++ js) (n + 1) (gCons' g h) := by
  refine ⟨(pgs_cons h1.pg h2.pg hs).imp fun vs σ H Q ⟨M, r, ds, r', S, p, e, q⟩ => ?_, fun {ds r r'} e => ?_⟩
  · cases ds with
    | nil => cases e
    | cons d ds =>
      cases p with
      | cons p ps =>
        unfold gCons' at e
        cases e1 : g d r with
        | none => simp only [e1] at e; cases e
        | some r1 =>
          simp only [e1] at e
          refine ⟨_, _, rfl, M, r, d, r1, S, p, e1, fun σ1 S1 w1 => ⟨M, r1, ds, r', S1, ps, e, fun σ2 S2 w2 => q σ2 S2 fun vs hv => ?_⟩⟩
          rw [w2 vs fun i hi => hv i (List.mem_append_right _ hi), w1 vs fun i hi => hv i (List.mem_append_left _ hi)]
  · cases ds with
    | nil => cases e
    | cons d ds =>
      unfold gCons' at e
      cases e1 : g d r with
      | none => simp only [e1] at e; cases e
      | some r1 =>
        simp only [e1] at e
        rw [List.length_cons, h2.len e]
theorem dg_tup {tgs : List Expr} {is : List Nat} {n kk : Nat} {h : GDs} (G : Good X C W k) (h1 : DGs X C tgs is n h) (hn : (assignEach tgs X.env).length = n := by rfl) (hst : (assignEach tgs X.env).findIdx? (·.1) = none := by rfl) :
    DG X C (.Tuple tgs kk pos) is (gT h) := by
  refine ⟨?_⟩
  have pg := pg_tup (pos := pos) (k := kk) G.calm h1.pg hn hst
  have F := G.fit
  obtain ⟨K, P, w, T, M0, H0⟩ := C
  obtain ⟨a, b, c⟩ := F
  cases a; cases b; cases c
  refine pg.imp fun v σ H Q ⟨M, r, d, r', S, p, e, q⟩ => ?_
  cases d with
  | tuple ds =>
    obtain ⟨a, rfl⟩ := HC.Rp.tupRef p
    obtain ⟨xs, h2, h3⟩ := HC.Rp.sqT p
    have e : h ds r = some r' := e
    exact ⟨a, xs, rfl, h2, by rw [HC.RpA.length h3]; exact h1.len e, M, r, ds, r', S, h3, e, q⟩
  | _ => cases e
end

/-! ### statements -/
structure En where
  nx : Env → Prop
  rt : D → Prop
  bk : Env → Prop
  ct : Env → Prop
  ex : Env → Addr → Prop
structure En.Le (e e' : En) : Prop where
  nx : ∀ r, e.nx r → e'.nx r
  rt : ∀ d, e.rt d → e'.rt d
  bk : ∀ r, e.bk r → e'.bk r
  ct : ∀ r, e.ct r → e'.ct r
  ex : ∀ r c, e.ex r c → e'.ex r c
theorem En.Le.refl (e : En) : En.Le e e := ⟨fun _ h => h, fun _ h => h, fun _ h => h, fun _ h => h, fun _ _ h => h⟩
abbrev TSD := En → Env → Prop
structure MonoS (t : TSD) : Prop where
  imp : ∀ {e e' : En} {r : Env}, En.Le e e' → t e r → t e' r
/-- the ends fit -/
structure Fits (C : Ct) (W : XW) (M : Addr → Prop) (H : Hp) (e : En) (De : Ends) : Prop where
  nx : ∀ M' r σ H', Stp M H M' H' → Sim C M' r σ H' → e.nx r → De.nx σ H'
  rt : ∀ M' r σ H' v d, Sim C M' r σ H' → C.Rp M' H' v d → e.rt d → De.rt v H'
  bk : ∀ M' r σ H', Stp M H M' H' → Sim C M' r σ H' → e.bk r → De.bk σ H'
  ct : ∀ M' r σ H', Stp M H M' H' → Sim C M' r σ H' → e.ct r → De.ct σ H'
  ex : ∀ M' r σ H' c, Stp M H M' H' → Sim C M' r σ H' → e.ex r c → W σ (.ref c) Option.none H'
theorem Fits.step {C : Ct} {W : XW} {M M' : Addr → Prop} {H H' : Hp} {e : En} {De : Ends} (f : Fits C W M H e De) (s : Stp M H M' H') : Fits C W M' H' e De :=
  ⟨fun M2 r σ H2 t S q => f.nx M2 r σ H2 (s.trans t) S q, f.rt, fun M2 r σ H2 t S q => f.bk M2 r σ H2 (s.trans t) S q, fun M2 r σ H2 t S q => f.ct M2 r σ H2 (s.trans t) S q, fun M2 r σ H2 c t S q => f.ex M2 r σ H2 c (s.trans t) S q⟩
theorem Fits.wish {C : Ct} {W : XW} {M : Addr → Prop} {H : Hp} {e : En} {De : Ends} (f : Fits C W M H e De) {r : Env} {σ : L2.St} (S : Sim C M r σ H) : Wish C W M r σ H (e.ex r) := fun c H2 k S2 q => f.ex M r σ H2 c (S.stp k) S2 q
end HC
/-! HC6: statements over data; a def by its body. -/
namespace HC
open PySem PySem.Spec PyProof.Rows L2

def lS (C : Ct) (W : XW) (t : TSD) : TS := fun De σ H => ∃ M r e, Sim C M r σ H ∧ Fits C W M H e De ∧ t e r
structure DS (X : Cx) (C : Ct) (W : XW) (st : Stmt) (t : TSD) : Prop where
  ps : PS X st (lS C W t)
  mo : MonoS t
structure DSs (X : Cx) (C : Ct) (W : XW) (st : List Stmt) (t : TSD) : Prop where
  ps : PSs X st (lS C W t)
  mo : MonoS t
def sNil : TSD := fun e r => e.nx r
def sSeq (t u : TSD) : TSD := fun e r => t { e with nx := u e } r
section
variable {C : Ct} {M : Addr → Prop} {r : Env} {σ : L2.St} {H H' : Hp}
theorem Sim.none_of (S : Sim C M r σ H') (k : C.Ex H H') {p : Addr} (h : H' p = none) : H p = none := by
  by_cases ht : C.inT p
  · exact absurd h (S.dom p (S.tm ht))
  · cases q : H p with
    | none => rfl
    | some o => rw [k p o ht q] at h; cases h
theorem Sim.old (S : Sim C M r σ H) {a : Addr} (h : H a = none) {j : Nat} {e : D} (e1 : r[j]? = some (.own e)) (e2 : σ[j]? = some (some (.ref a))) : False := by
  obtain ⟨b, h1, h2, _⟩ := S.own j e e1
  rw [e2] at h1
  cases h1
  exact S.dom a h2 h
/-- a slot gets what the right side gave -/
theorem Sim.setSl {M' : Addr → Prop} {s : Sl} {v : V} {i : Nat} (S : Sim C M r σ H) (S' : Sim C M' r σ H') (p : SlR C M' H' (fun a => H a = none) v s) : Sim C M' (r.set i s) (σ.set i (some v)) H' := by
  cases p with
  | val p => exact S'.set p
  | own m n p =>
    obtain ⟨h0, m0⟩ := S.newH0 n
    exact S'.setOwn m h0 m0 p fun j e e1 e2 => (S.old n e1 e2).elim
/-- a slot's own object is changed -/
theorem Sim.mut {i : Nat} {a : Addr} {d d' : D} {o : HO} (S : Sim C M r σ H) (hr : r[i]? = some (.own d)) (hs : σ[i]? = some (some (.ref a))) (p : Stp M H M (upd H a o) → C.Top M (upd H a o) a d') :
    Stp M H M (upd H a o) ∧ Sim C M (r.set i (.own d')) σ (upd H a o) := by
  obtain ⟨a', e1, m, h0, m0, tp⟩ := S.own i d hr
  rw [hs] at e1
  cases e1
  have st : Stp M H M (upd H a o) := fun b x e n => ⟨by rw [upd_ne (fun z : b = a => n (z ▸ m))]; exact e, n⟩
  have nt : ¬ C.inT a := fun t => m0 (S.inm a t)
  refine ⟨st, ?_⟩
  have hi : i < r.length := (List.getElem?_eq_some_iff.mp hr).1
  refine ⟨by rw [List.length_set]; exact S.len, fun j e q => ?_, fun j e q => ?_, fun j b x y c q1 q2 q3 q4 => ?_, fun j q => ?_, ⟨fun b x n e => ?_, ?_⟩, S.m0, fun b mb z => ?_, S.inm⟩
  · by_cases hj : i = j
    · subst hj
      rw [List.getElem?_set_self hi] at q; cases q
    · rw [List.getElem?_set_ne hj] at q
      obtain ⟨v, h1, h2⟩ := S.val j e q
      exact ⟨v, h1, h2.step st⟩
  · by_cases hj : i = j
    · subst hj
      rw [List.getElem?_set_self hi] at q
      cases q
      exact ⟨a, hs, m, h0, m0, p st⟩
    · rw [List.getElem?_set_ne hj] at q
      obtain ⟨b, h1, h2, h3, h4, h5⟩ := S.own j e q
      exact ⟨b, h1, h2, h3, h4, h5.step st fun x z => by
        rw [upd_ne (fun y : b = a => hj (S.sep i j d e a hr q hs (y ▸ h1)))]
        exact z⟩
  · have back : ∀ {j : Nat} {x : D}, (r.set i (.own d'))[j]? = some (.own x) → ∃ x', r[j]? = some (.own x') := fun {j x} q => by
      by_cases hj : i = j
      · subst hj; exact ⟨d, hr⟩
      · rw [List.getElem?_set_ne hj] at q; exact ⟨x, q⟩
    obtain ⟨x', b1⟩ := back q1
    obtain ⟨y', b2⟩ := back q2
    exact S.sep j b x' y' c b1 b2 q3 q4
  · by_cases hj : i = j
    · subst hj
      rw [List.getElem?_set_self hi] at q; cases q; exact trivial
    · rw [List.getElem?_set_ne hj] at q
      exact S.tk j q
  · rw [upd_ne (fun z : b = a => by rw [z, h0] at e; cases e)]
    exact S.base.keep b x n e
  · exact tok_step st (fun b hb => upd_ne (fun z => nt (z ▸ hb))) S.base.tok
  · by_cases hb : b = a
    · subst hb; rw [upd_same] at z; cases z
    · rw [upd_ne hb] at z; exact S.dom b mb z
/-- nobody changes slot i's object any more -/
def frz (r : Env) (i : Nat) : Env := match slot r i with
  | .own d => r.set i (.val d)
  | _ => r
theorem Sim.freeze (S : Sim C M r σ H) (i : Nat) : ∃ M', Stp M H M' H ∧ Sim C M' (frz r i) σ H := by
  unfold frz
  cases hsl : slot r i with
  | un => exact ⟨M, Stp.refl, S⟩
  | val d => exact ⟨M, Stp.refl, S⟩
  | tok => exact ⟨M, Stp.refl, S⟩
  | obj d => exact ⟨M, Stp.refl, S⟩
  | own d =>
    have hr := slot_get hsl (by simp)
    obtain ⟨a, e1, m, h0, m0, tp⟩ := S.own i d hr
    have hi : i < r.length := (List.getElem?_eq_some_iff.mp hr).1
    have ls : ∀ b, (M b ∧ b ≠ a) → M b := fun b h => h.1
    have st : Stp M H (fun b => M b ∧ b ≠ a) H := Stp.less ls
    refine ⟨fun b => M b ∧ b ≠ a, st, ?_⟩
    refine ⟨by rw [List.length_set]; exact S.len, fun j e q => ?_, fun j e q => ?_, fun j b x y c q1 q2 q3 q4 => ?_, fun j q => ?_, S.base.to st, fun b mb => ⟨S.m0 b mb, fun z => m0 (z ▸ mb)⟩, fun b mb => S.dom b mb.1, S.inm⟩
    · by_cases hj : i = j
      · subst hj
        rw [List.getElem?_set_self hi] at q
        cases q
        exact ⟨_, e1, (tp.step st fun o z => z).rp fun z => z.2 rfl⟩
      · rw [List.getElem?_set_ne hj] at q
        obtain ⟨v, h1, h2⟩ := S.val j e q
        exact ⟨v, h1, h2.step st⟩
    · by_cases hj : i = j
      · subst hj
        rw [List.getElem?_set_self hi] at q; cases q
      · rw [List.getElem?_set_ne hj] at q
        obtain ⟨b, h1, h2, h3, h4, h5⟩ := S.own j e q
        exact ⟨b, h1, ⟨h2, fun y => hj (S.sep i j d e a hr q e1 (y ▸ h1))⟩, h3, h4, h5.step st fun o z => z⟩
    · have ne : ∀ {j x}, (r.set i (.val d))[j]? = some (.own x) → i ≠ j := fun {j x} q z => by
        subst z
        rw [List.getElem?_set_self hi] at q; cases q
      rw [List.getElem?_set_ne (ne q1)] at q1
      rw [List.getElem?_set_ne (ne q2)] at q2
      exact S.sep j b x y c q1 q2 q3 q4
    · by_cases hj : i = j
      · subst hj
        rw [List.getElem?_set_self hi] at q; cases q; exact trivial
      · rw [List.getElem?_set_ne hj] at q
        exact S.tk j q
end
section
variable {X : Cx} {C : Ct} {W : XW} {e : Expr} {t : TSD} {u : TSD} {st : Stmt} {rest : List Stmt} {pos : Pos} {k : Nat}
theorem dss_nil : DSs X C W [] sNil := ⟨pss_nil.imp fun De σ H ⟨M, r, e, S, f, q⟩ => f.nx M r σ H Stp.refl S q, ⟨fun h q => h.nx _ q⟩⟩
theorem mono_seq (h1 : MonoS t) (h2 : MonoS u) : MonoS (sSeq t u) := ⟨fun {e e' r} h q => h1.imp (e := { e with nx := u e }) (e' := { e' with nx := u e' }) ⟨fun _ z => h2.imp h z, h.rt, h.bk, h.ct, h.ex⟩ q⟩
theorem dss_cons (h1 : DS X C W st t) (h2 : DSs X C W rest u) : DSs X C W (st :: rest) (sSeq t u) :=
  ⟨(pss_cons h1.ps h2.ps).imp fun De σ H ⟨M, r, e, S, f, q⟩ => ⟨M, r, { e with nx := u e }, S, ⟨fun M' r' σ' H' s S' z => ⟨M', r', e, S', f.step s, z⟩, f.rt, f.bk, f.ct, f.ex⟩, q⟩, mono_seq h1.mo h2.mo⟩
theorem dss_one (h1 : DS X C W st t) : DSs X C W [st] t := ⟨pss_one h1.ps, h1.mo⟩
theorem ds_pass : DS X C W (.Pass pos) sNil := ⟨ps_pass.imp fun De σ H ⟨M, r, e, S, f, q⟩ => f.nx M r σ H Stp.refl S q, ⟨fun h q => h.nx _ q⟩⟩
theorem ds_doc {x : Str} {j : Nat} {p2 : Pos} : DS X C W (.Expr (.Constant (.str x) j p2) pos) sNil := ⟨ps_doc.imp fun De σ H ⟨M, r, e, S, f, q⟩ => f.nx M r σ H Stp.refl S q, ⟨fun h q => h.nx _ q⟩⟩
/-- slot i is not changed from here on (till it is bound anew) -/
def sFrz (i : Nat) (t : TSD) : TSD := fun e r => t e (frz r i)
theorem ds_frz (i : Nat) (h : DS X C W st t) : DS X C W st (sFrz i t) :=
  ⟨h.ps.imp fun De σ H ⟨M, r, e, S, f, q⟩ => let ⟨M', s, S'⟩ := S.freeze i; ⟨M', frz r i, e, S', f.step s, q⟩, ⟨fun h' q => h.mo.imp h' q⟩⟩
theorem dss_frz (i : Nat) (h : DSs X C W rest t) : DSs X C W rest (sFrz i t) :=
  ⟨h.ps.imp fun De σ H ⟨M, r, e, S, f, q⟩ => let ⟨M', s, S'⟩ := S.freeze i; ⟨M', frz r i, e, S', f.step s, q⟩, ⟨fun h' q => h.mo.imp h' q⟩⟩
/-- x = e -/
def sAsg (i : Nat) (t : TX) : TSD := fun e r => t r (fun s => e.nx (r.set i s)) (e.ex r)
theorem ds_asg (i : Nat) {x : Str} {t : TX} {pos' : Pos} (G : Good X C W k) (he : DX X C W e t) (hi : X.N[i]? = some x := by rfl) (hx : Loc X.env.scope x := by first | exact Or.inl rfl | exact Or.inr rfl) (hs : swapsWith e (some (.Name x pos')) pos.line X.env = pure false := by rfl)
    (hf : X.fn x = true ∨ X.env.scope.names.lookup x = some .local := by first | exact .inl rfl | exact .inr rfl | assumption) : DS X C W (.Assign [.Name x pos'] e pos) (sAsg i t) := by
  refine ⟨(ps_set G.nd hi hx he.pe hs hf).imp fun De σ H ⟨M, r, e, S, f, q⟩ => ⟨M, r, e.ex r, S, f.wish S, he.mo.imp (fun s z v M' H' k' g S' p => ?_) (fun _ z => z) q⟩, ⟨fun h q => he.mo.imp (fun s z => h.nx _ z) (fun c z => h.ex _ c z) q⟩⟩
  exact f.nx M' _ _ H' (g.stp S k') (S.setSl S' p) z
/-- e as a statement -/
def sExpr (t : TP) : TSD := fun e r => t r (fun _ => e.nx r) (e.ex r)
theorem ds_expr {t : TP} (he : DE X C W e t) (hs : swapsWith e none pos.line X.env = pure false := by rfl) : DS X C W (.Expr e pos) (sExpr t) :=
  ⟨(ps_expr he.pe hs).imp fun De σ H ⟨M, r, e, S, f, q⟩ => ⟨M, r, e.ex r, S, f.wish S, he.mo.imp (fun s z v H' k' S' p => f.nx M r σ H' (S.stp k') S' z) (fun _ z => z) q⟩, ⟨fun h q => he.mo.imp (fun s z => h.nx _ z) (fun c z => h.ex _ c z) q⟩⟩
def sRet (t : TP) : TSD := fun e r => t r e.rt (e.ex r)
theorem ds_ret {t : TP} (he : DV X C W e t) : DS X C W (.Return (some e) pos) (sRet t) :=
  ⟨(ps_ret he.pe).imp fun De σ H ⟨M, r, e, S, f, q⟩ => ⟨M, r, e.ex r, S, f.wish S, he.mo.imp (fun d z v H' k' S' p => f.rt M r σ H' v d S' p z) (fun _ z => z) q⟩, ⟨fun h q => he.mo.imp (fun s z => h.rt _ z) (fun c z => h.ex _ c z) q⟩⟩
def sIf (b : TB) (t u : TSD) : TSD := fun e r => b r (fun k => if k = true then t e r else u e r) (e.ex r)
theorem ds_if {c : Expr} {b : TB} {s1 s2 : List Stmt} (hc : DT X C W c b) (h1 : DSs X C W s1 t) (h2 : DSs X C W s2 u) : DS X C W (.If c s1 s2 pos) (sIf b t u) := by
  refine ⟨(ps_if hc.pt h1.ps h2.ps).imp fun De σ H ⟨M, r, e, S, f, q⟩ => ⟨M, r, e.ex r, S, f.wish S, hc.mo.imp (fun k' z H1 k1 S1 => ?_) (fun _ z => z) q⟩, ⟨fun h q => hc.mo.imp (fun k' z => ?_) (fun c z => h.ex _ c z) q⟩⟩
  · cases k' with
    | true => exact ⟨M, r, e, S1, f.step (S.stp k1), z⟩
    | false => exact ⟨M, r, e, S1, f.step (S.stp k1), z⟩
  · cases k' with
    | true => exact h1.mo.imp h z
    | false => exact h2.mo.imp h z
/-- a, b = a value that is a tuple -/
def sUnp (t : TP) (g : GD) : TSD := fun e r => t r (fun d => ∃ r', g d r = some r' ∧ e.nx r') (e.ex r)
theorem ds_unp {tg : Expr} {is : List Nat} {g : GD} {t : TP} (he : DV X C W e t) (hg : DG X C tg is g) (hs : swapsWithSole [tg] e pos.line X.env = pure false := by rfl) (hw : swappedStores [tg] e X.env = pure none := by rfl)
    (h1 : (assignEach [tg] X.env).map (·.2) = [assign tg X.env] := by rfl) : DS X C W (.Assign [tg] e pos) (sUnp t g) := by
  refine ⟨(ps_asg he.pe hg.pg hs hw h1).imp fun De σ H ⟨M, r, e, S, f, q⟩ => ⟨M, r, e.ex r, S, f.wish S, he.mo.imp (fun d ⟨r', e1, z⟩ v H' k' S' p => ?_) (fun _ z => z) q⟩, ⟨fun h q => he.mo.imp (fun s ⟨r', e1, z⟩ => ⟨r', e1, h.nx _ z⟩) (fun c z => h.ex _ c z) q⟩⟩
  exact ⟨M, r, d, r', S', p, e1, fun σ' S2 _ => f.nx M r' σ' H' (S.stp k') S2 z⟩
/-- xs.append(e) -/
def sApp (i : Nat) (t : TP) : TSD := fun e r => match slot r i with
  | .own (.list ds) => t r (fun d => ds.length < sizeLine ∧ e.nx (r.set i (.own (.list (ds ++ [d]))))) (e.ex r)
  | _ => False
theorem ds_app (i : Nat) {x : Str} {t : TP} {p1 p2 p3 : Pos} (G : Good X C W k) (he : DV X C W e t) (hN : X.N[i]? = some x := by rfl) (hv : Vis X.env.scope x := by first | exact Or.inl rfl | exact Or.inr (Or.inl rfl) | exact Or.inr (Or.inr rfl))
    (hd : (x == ("__debug__" : Str)) = false := by decide) (hcd : (x == ("__classdict__" : Str)) = false := by decide)
    (hbase : attributeBase (.Name x p1) "append" X.env (eval (.Name x p1) X.env) = eval (.Name x p1) X.env := by rfl)
    (hfew : ((backTo p3 (starEach [e] X.env)).all (fun x => !x.1) && (backToKw p3 (keywordEach [] X.env)).all (fun x => x.1.isSome) && decide (([e] : List Expr).length + ([] : List Keyword).length + (if ([] : List Keyword).isEmpty then 0 else 1) < 30)) = true := by rfl)
    (hline : (p2.endLine == p3.line) = true := by rfl) (hst : starEach [e] X.env = (false, eval e X.env) :: starEach [] X.env := by rfl) (hsw : swapsWith (.Call (.Attribute (.Name x p1) "append" p2) [e] [] p3) none pos.line X.env = pure false := by rfl) :
    DS X C W (.Expr (.Call (.Attribute (.Name x p1) "append" p2) [e] [] p3) pos) (sApp i t) := by
  refine ⟨(ps_expr (pe_bm PySem.F.plainAttrs_list PySem.F.slot_list_append PySem.F.type_list_append mt_append (pe_var (i := i) hN hv hd hcd) (pa_cons he.pe pa_nil hst) hbase hfew hline hst rfl) hsw).imp fun De σ H ⟨M, r, e, S, f, q⟩ => ?_, ⟨fun {e e' r} h q => ?_⟩⟩
  · unfold sApp at q
    split at q
    · rename_i ds es
      have hr := slot_get es (by simp)
      obtain ⟨a, e1, m, h0, m0, tp⟩ := S.own i _ hr
      cases tp with
      | @lst xs _ ea pa =>
        refine ⟨.ref a, e1, .inl ⟨rfl, _, SqL.of ea⟩, M, r, e.ex r, S, f.wish S, he.mo.imp (fun d ⟨hl, z⟩ v H1 k1 S1 p => ?_) (fun _ z => z) q⟩
        have nt : ¬ C.inT a := fun t => m0 (S.inm a t)
        have ea1 : H1 a = some (.lst xs) := k1 a _ nt ea
        refine ⟨a, xs, v, rfl, rfl, ea1, by rw [HC.RpA.length pa]; exact hl, ?_⟩
        obtain ⟨s2, S2⟩ := S1.mut (o := .lst (xs ++ [v])) (d' := .list (ds ++ [d])) hr e1 fun s2 => .lst upd_same (HC.RpA.append ((HC.RpA.step (S.stp k1) pa).step s2) (.cons (HC.Rp.step s2 p) .nil))
        exact f.nx M _ σ _ ((S.stp k1).trans s2) S2 z
    · exact q.elim
  · unfold sApp at q ⊢
    split at q
    · exact he.mo.imp (fun d ⟨hl, z⟩ => ⟨hl, h.nx _ z⟩) (fun c z => h.ex _ c z) q
    · exact q
/-- xs[j] = e -/
def sSetL (i : Nat) (t tj : TP) : TSD := fun e r => match slot r i with
  | .own (.list ds) => t r (fun d => tj r (fun j => match j with
    | .int n => ∃ m, ixN ds.length n = some m ∧ e.nx (r.set i (.own (.list (ds.set m d))))
    | _ => False) (e.ex r)) (e.ex r)
  | _ => False
theorem ds_setL (i : Nat) {x : Str} {ej : Expr} {t tj : TP} {p1 p2 : Pos} (G : Good X C W k) (he : DV X C W e t) (hj : DE X C W ej tj) (hN : X.N[i]? = some x := by rfl) (hv : Vis X.env.scope x := by first | exact Or.inl rfl | exact Or.inr (Or.inl rfl) | exact Or.inr (Or.inr rfl))
    (hd : (x == ("__debug__" : Str)) = false := by decide) (hcd : (x == ("__classdict__" : Str)) = false := by decide)
    (ha : ∀ v, assign (.Subscript (.Name x p1) ej p2) X.env v = (do
      let ov ← holding [v] (eval (.Name x p1) X.env)
      let iv ← holding [v, ov] (eval ej X.env)
      standAt p2
      holding [v, ov, iv] (setItem ov iv v)
      release [v, ov, iv] []) := by intro _; rfl)
    (hs : swapsWithSole [.Subscript (.Name x p1) ej p2] e pos.line X.env = pure false := by rfl) (hw : swappedStores [.Subscript (.Name x p1) ej p2] e X.env = pure none := by rfl)
    (h1 : (assignEach [.Subscript (.Name x p1) ej p2] X.env).map (·.2) = [assign (.Subscript (.Name x p1) ej p2) X.env] := by rfl) :
    DS X C W (.Assign [.Subscript (.Name x p1) ej p2] e pos) (sSetL i t tj) := by
  refine ⟨(ps_asg he.pe (pg_sub (pe_var (i := i) hN hv hd hcd) hj.pe set_list ha) hs hw h1).imp fun De σ H ⟨M, r, e, S, f, q⟩ => ?_, ⟨fun {e e' r} h q => ?_⟩⟩
  · unfold sSetL at q
    split at q
    · rename_i ds hsl
      have hr := slot_get hsl (by simp)
      refine ⟨M, r, e.ex r, S, f.wish S, he.mo.imp (fun d z v H1 k1 S1 p1 => ?_) (fun _ z => z) q⟩
      obtain ⟨a, e1, m, h0, m0, tp⟩ := S1.own i _ hr
      refine ⟨.ref a, e1, M, r, e.ex r, S1, (f.wish S).mono k1, hj.mo.imp (fun j z vj H2 k2 S2 p2 => ?_) (fun _ z => z) z⟩
      cases tp with
      | @lst xs _ ea pa =>
        cases j with
        | int n =>
          obtain ⟨mm, hm, z⟩ := z
          have nt : ¬ C.inT a := fun t => m0 (S.inm a t)
          have ea2 : H2 a = some (.lst xs) := k2 a _ nt ea
          refine ⟨a, xs, n, mm, rfl, p2.int, ea2, by rw [HC.RpA.length pa]; exact hm, ?_⟩
          obtain ⟨s3, S3⟩ := S2.mut (o := .lst (xs.set mm v)) (d' := .list (ds.set mm d)) hr e1 fun s3 => .lst upd_same (((HC.RpA.step (S1.stp k2) pa).set (HC.Rp.step (S1.stp k2) p1) mm).step s3)
          exact f.nx M _ σ _ (((S.stp k1).trans (S1.stp k2)).trans s3) S3 z
        | _ => exact z.elim
    · exact q.elim
  · unfold sSetL at q ⊢
    split at q
    · refine he.mo.imp (fun d z => hj.mo.imp (fun j z => ?_) (fun c z => h.ex _ c z) z) (fun c z => h.ex _ c z) q
      split at z
      · obtain ⟨m, hm, z⟩ := z
        exact ⟨m, hm, h.nx _ z⟩
      · exact z
    · exact q
end
end HC
/-! HC7: what is walked; for, while, comprehensions; several targets at once; raise; defs. -/
namespace HC
open PySem PySem.Spec PyProof.Rows L2

/-! ### what is walked -/
structure Yields (C : Ct) (M : Addr → Prop) (H : Hp) (J : It) (ds : List D) : Prop where
  go : ∀ i M1 H1, Stp M H M1 H1 → i < ds.length → J.go i H1
  yld : ∀ i M1 H1 x H2, Stp M H M1 H1 → Dom M1 H1 → i < ds.length → J.yld i H1 x H2 → ∃ d, ds[i]? = some d ∧ Same H1 H2 ∧ C.Rp M1 H2 x d
  stop : ∀ i M1 H1, Stp M H M1 H1 → ds.length ≤ i → J.stop i H1
structure MonoI (t : TPA) : Prop where
  imp : ∀ {r : Env} {Q Q' : List D → Prop} {E E' : Addr → Prop}, (∀ d, Q d → Q' d) → (∀ c, E c → E' c) → t r Q E → t r Q' E'
def lI (C : Ct) (W : XW) (t : TPA) : TI := fun σ H R => ∃ M r E, Sim C M r σ H ∧ Wish C W M r σ H E ∧ t r (fun ds => ∀ J H', C.Ex H H' → Sim C M r σ H' → Yields C M H' J ds → R J H') E
structure DI (X : Cx) (C : Ct) (W : XW) (tg iter : Expr) (t : TPA) : Prop where
  pi : PI X tg iter (lI C W t)
  mo : MonoI t
def iSeqS (t : TP) : TPA := fun r Q E => t r (fun d => match d with
  | .list ds => Q ds
  | .tuple ds => Q ds
  | _ => False) E
theorem mono_iseqS {t : TP} (h : Mono t) : MonoI (iSeqS t) := ⟨fun hq he q => h.imp (fun d z => by
  cases d with
  | list ds => exact hq _ z
  | tuple ds => exact hq _ z
  | _ => exact z) he q⟩
section
variable {X : Cx} {C : Ct} {W : XW} {tg e : Expr} {t : TP} {u : TPA} {pos : Pos} {k : Nat}
theorem yields_list {M : Addr → Prop} {H : Hp} {a : Addr} {xs : List V} {ds : List D} (m : ¬ M a) (ea : H a = some (.lst xs)) (p : C.RpA M H xs ds) : Yields C M H (Itl C.K a) ds := by
  refine ⟨fun i M1 H1 s hi => ?_, fun i M1 H1 x H2 s dm hi ⟨e1, e2⟩ => ?_, fun i M1 H1 s hi => ?_⟩
  · obtain ⟨v, hv, _⟩ := HC.RpA.get p (List.getElem?_eq_getElem hi)
    exact ⟨xs, v, SqL.of (s a _ ea m).1, hv⟩
  · have hx := e2 xs (SqL.of (s a _ ea m).1)
    obtain ⟨d, h1, h2⟩ := HC.RpA.getV p hx
    subst e1
    exact ⟨d, h1, Same.refl', h2.step s⟩
  · exact ⟨xs, SqL.of (s a _ ea m).1, by rw [HC.RpA.length p]; exact hi⟩
theorem yields_tup {M : Addr → Prop} {H : Hp} {a : Addr} {xs : List V} {ds : List D} (hs : ∀ M1 H1, Stp M H M1 H1 → SqT C.K H1 a xs) (p : C.RpA M H xs ds) : Yields C M H (Itt C.K a) ds := by
  refine ⟨fun i M1 H1 s hi => ?_, fun i M1 H1 x H2 s dm hi ⟨e1, e2⟩ => ?_, fun i M1 H1 s hi => ?_⟩
  · obtain ⟨v, hv, _⟩ := HC.RpA.get p (List.getElem?_eq_getElem hi)
    exact ⟨xs, v, hs M1 H1 s, hv⟩
  · have hx := e2 xs (hs M1 H1 s)
    obtain ⟨d, h1, h2⟩ := HC.RpA.getV p hx
    subst e1
    exact ⟨d, h1, Same.refl', h2.step s⟩
  · exact ⟨xs, hs M1 H1 s, by rw [HC.RpA.length p]; exact hi⟩
/-- a list or a tuple -/
theorem di_seqS (G : Good X C W k) (he : DV X C W e t) : DI X C W tg e (iSeqS t) := by
  refine ⟨⟨fun pins s σ H R I ⟨M, r, E, S, hW, q⟩ => ?_⟩, mono_iseqS he.mo⟩
  have fk := G.fit.k
  refine thn (he.pe.run pins s σ H (fun x H1 => ∃ a, x = .ref a ∧ ((∃ xs, SqL X.K H1 a xs ∧ R (Itl X.K a) H1) ∨ ∃ xs, SqT X.K H1 a xs ∧ R (Itt X.K a) H1)) I ⟨M, r, E, S, hW, he.mo.imp (fun d z v H1 k1 S1 p1 => ?_) (fun _ z => z) q⟩) fun v s1 ⟨x, H1, I1, r1, a, ex, q1⟩ => ?_
  · cases d with
    | list ds =>
      cases p1 with
      | @lst a xs _ m ea pa => exact ⟨a, rfl, .inl ⟨xs, SqL.of ea, by rw [fk]; exact z _ H1 k1 S1 (yields_list m ea pa)⟩⟩
    | tuple ds =>
      cases p1 with
      | @tup a xs _ m ea pa => exact ⟨a, rfl, .inr ⟨xs, SqT.of ea, by rw [fk]; exact z _ H1 k1 S1 (yields_tup (fun M1 H1 s => SqT.of (s a _ ea m).1) pa)⟩⟩
      | @ktup a xs _ ea pa => exact ⟨a, rfl, .inr ⟨xs, .inr (by rw [fk]; exact ea), by rw [fk]; exact z _ H1 k1 S1 (yields_tup (fun M1 H1 s => .inr ea) pa)⟩⟩
    | _ => exact z.elim
  · subst ex
    cases r1
    rcases q1 with ⟨xs, hq, q⟩ | ⟨xs, hq, q⟩
    · obtain ⟨its, rv, p, hz⟩ := I1.list hq
      refine wpAny_pyIter_list p.isList ?_
      refine ⟨s1.heap.objs.size, [s1.heap.objs.size], _, _, H1, rfl, I1.kept (t' := s1.toks) fun b o e => Heap.get?_push_of_some _ e, turn_list a _, ⟨_, Heap.get?_push_size _ rfl, rfl, rfl⟩, fun b hb => ?_, q⟩
      have e : b = s1.heap.objs.size := by simpa using hb
      subst e
      exact I1.fpOk (Nat.le_refl _) (I1.hok.fresh (Nat.le_refl _))
    · obtain ⟨its, rv, p, hz⟩ := I1.tuple hq
      refine wpAny_pyIter_tuple (show s1.heap.IsTuple a its.toArray from p) ?_
      refine ⟨s1.heap.objs.size, [s1.heap.objs.size], _, _, H1, rfl, I1.kept (t' := s1.toks) fun b o e => Heap.get?_push_of_some _ e, turn_tuple a _, ⟨_, Heap.get?_push_size _ rfl, rfl, rfl⟩, fun b hb => ?_, q⟩
      have e : b = s1.heap.objs.size := by simpa using hb
      subst e
      exact I1.fpOk (Nat.le_refl _) (I1.hok.fresh (Nat.le_refl _))
/-- range -/
def rngD (lo : Int) (n : Nat) : List D := (List.range n).map fun (i : Nat) => D.int (lo + i)
theorem yields_rng {M : Addr → Prop} {H : Hp} (lo : Int) (n : Nat) : Yields C M H (Itr lo n) (rngD lo n) := by
  have hl : (rngD lo n).length = n := by unfold rngD; rw [List.length_map, List.length_range]
  refine ⟨fun i M1 H1 s hi => by rw [hl] at hi; exact hi, fun i M1 H1 x H2 s dm hi ⟨e1, e2⟩ => ?_, fun i M1 H1 s hi => by rw [hl] at hi; exact hi⟩
  rw [hl] at hi
  subst e1 e2
  refine ⟨.int (lo + i), ?_, Same.refl', .int _⟩
  unfold rngD
  rw [List.getElem?_map, List.getElem?_range hi]
  rfl
def iRange : TPA → TPA := fun u r Q E => u r (fun ds => match ds with
  | [.int j] => (-(2 ^ 62) ≤ j ∧ j < 2 ^ 62) ∧ Q (rngD 0 j.toNat)
  | [.int i, .int j] => (-(2 ^ 62) ≤ i ∧ i < 2 ^ 62 ∧ -(2 ^ 62) ≤ j ∧ j < 2 ^ 62) ∧ Q (rngD i (j - i).toNat)
  | _ => False) E
theorem mono_irange {n : Nat} (h : MonoA n u) : MonoI (iRange u) := ⟨fun hq he q => h.imp (fun d _ z => by
  split at z
  · exact ⟨z.1, hq _ z.2⟩
  · exact ⟨z.1, hq _ z.2⟩
  · exact z) he q⟩
theorem di_range1 {p : Pos} (ha : DAq X C W [e] u) (hm : X.mg "range" = none) (hg : Gl X "range" := by rfl) (hs : starEach [e] X.env = [(false, eval e X.env)] := by rfl) : DI X C W tg (.Call (.Name "range" p) [e] [] pos) (iRange u) := by
  refine ⟨(pi_range1 hg hm ha.pa hs).imp fun σ H R ⟨M, r, E, S, hW, q⟩ => ⟨M, r, E, S, hW, ha.mo.imp (fun ds hl z vs H1 k1 S1 p1 => ?_) (fun _ z => z) q⟩, mono_irange ha.mo⟩
  split at z
  · obtain ⟨v, rfl, p⟩ := rq1 p1
    rw [p.int]
    exact ⟨_, rfl, z.1.1, z.1.2, z.2 _ H1 k1 S1 (yields_rng _ _)⟩
  · cases hl
  · exact z.elim
theorem di_range2 {p : Pos} {e2 : Expr} (ha : DAq X C W [e, e2] u) (hm : X.mg "range" = none) (hg : Gl X "range" := by rfl) (hs : starEach [e, e2] X.env = [(false, eval e X.env), (false, eval e2 X.env)] := by rfl) (hs2 : starEach [e2] X.env = [(false, eval e2 X.env)] := by rfl) :
    DI X C W tg (.Call (.Name "range" p) [e, e2] [] pos) (iRange u) := by
  refine ⟨(pi_range2 hg hm ha.pa hs hs2).imp fun σ H R ⟨M, r, E, S, hW, q⟩ => ⟨M, r, E, S, hW, ha.mo.imp (fun ds hl z vs H1 k1 S1 p1 => ?_) (fun _ z => z) q⟩, mono_irange ha.mo⟩
  split at z
  · cases hl
  · obtain ⟨v, v', rfl, p, p'⟩ := rq2 p1
    rw [p.int, p'.int]
    exact ⟨_, _, rfl, z.1, z.2 _ H1 k1 S1 (yields_rng _ _)⟩
  · exact z.elim
/-- enumerate(list) -/
def enumD : Nat → List D → List D
  | _, [] => []
  | n, d :: r => .tuple [.int n, d] :: enumD (n + 1) r
theorem enumD_length : ∀ (n : Nat) (ds : List D), (enumD n ds).length = ds.length
  | _, [] => rfl
  | n, d :: r => by
    show (enumD (n + 1) r).length + 1 = r.length + 1
    rw [enumD_length]
theorem enumD_get : ∀ (n : Nat) (ds : List D) (i : Nat) (d : D), ds[i]? = some d → (enumD n ds)[i]? = some (.tuple [.int ((n + i : Nat) : Int), d])
  | _, [], _, _, h => by simp at h
  | n, x :: r, 0, d, h => by simp at h; subst h; rfl
  | n, x :: r, i + 1, d, h => by
    show (enumD (n + 1) r)[i]? = _
    rw [enumD_get (n + 1) r i d (by simpa using h)]
    have e : n + 1 + i = n + (i + 1) := by omega
    rw [e]
theorem two_le_size : 2 ≤ sizeLine := by decide
theorem yields_enum {M : Addr → Prop} {H : Hp} {a : Addr} {xs : List V} {ds : List D} (m : ¬ M a) (ea : H a = some (.lst xs)) (p : C.RpA M H xs ds) : Yields C M H (Ite C.K a) (enumD 0 ds) := by
  refine ⟨fun i M1 H1 s hi => ?_, fun i M1 H1 x H2 s dm hi ⟨T, y, e1, e2, e3, e4⟩ => ?_, fun i M1 H1 s hi => ?_⟩
  · rw [enumD_length] at hi
    obtain ⟨v, hv, _⟩ := HC.RpA.get p (List.getElem?_eq_getElem hi)
    exact ⟨xs, v, SqL.of (s a _ ea m).1, hv⟩
  · have hx := e4 xs (SqL.of (s a _ ea m).1)
    obtain ⟨d, h1, h2⟩ := HC.RpA.getV p hx
    subst e1 e3
    refine ⟨_, enumD_get 0 ds i d h1, same_upd e2, .tup (dm.fresh e2) upd_same ?_⟩
    rw [Nat.zero_add]
    exact .cons (.int _) (.cons ((h2.step s).step (Stp.grow (same_upd e2))) .nil)
  · rw [enumD_length] at hi
    exact ⟨xs, SqL.of (s a _ ea m).1, by rw [HC.RpA.length p]; exact hi⟩
def iEnumD (t : TP) : TPA := fun r Q E => t r (fun d => match d with
  | .list ds => Q (enumD 0 ds)
  | _ => False) E
theorem di_enum {p tpos : Pos} {elts : List Expr} {kk : Nat} (G : Good X C W k) (he : DV X C W e t) (hm : X.mg "enumerate" = none) (hg : Gl X "enumerate" := by rfl) (hs : starEach [e] X.env = [(false, eval e X.env)] := by rfl)
    (hs' : starEach [e] X.env = (false, eval e X.env) :: starEach [] X.env := by rfl) : DI X C W (.Tuple elts kk tpos) (.Call (.Name "enumerate" p) [e] [] pos) (iEnumD t) := by
  have fk := G.fit.k
  refine ⟨(pi_enum hg hm (pa_cons he.pe pa_nil hs') hs).imp fun σ H R ⟨M, r, E, S, hW, q⟩ => ⟨M, r, E, S, hW, he.mo.imp (fun d z v H1 k1 S1 p1 => ?_) (fun _ z => z) q⟩, ⟨fun hq he' q => he.mo.imp (fun d z => ?_) he' q⟩⟩
  · cases d with
    | list ds =>
      cases p1 with
      | @lst a xs _ m ea pa => exact ⟨a, xs, rfl, SqL.of ea, by rw [fk]; exact z _ H1 k1 S1 (yields_enum m ea pa)⟩
    | _ => exact z.elim
  · cases d with
    | list ds => exact hq _ z
    | _ => exact z
/-- zip(list, list) -/
def zipD (xs ys : List D) : List D := (xs.zip ys).map fun p => D.tuple [p.1, p.2]
theorem zipD_length (xs ys : List D) : (zipD xs ys).length = min xs.length ys.length := by unfold zipD; rw [List.length_map, List.length_zip]
theorem zipD_get {xs ys : List D} {i : Nat} {x y : D} (h1 : xs[i]? = some x) (h2 : ys[i]? = some y) : (zipD xs ys)[i]? = some (.tuple [x, y]) := by
  unfold zipD
  rw [List.getElem?_map, List.getElem?_zip_eq_some (z := (x, y)).mpr ⟨h1, h2⟩]
  rfl
theorem yields_zip {M : Addr → Prop} {H : Hp} {a b : Addr} {xs ys : List V} {ds es : List D} (m : ¬ M a) (ea : H a = some (.lst xs)) (p : C.RpA M H xs ds) (m' : ¬ M b) (eb : H b = some (.lst ys)) (p' : C.RpA M H ys es) : Yields C M H (Itz C.K a b) (zipD ds es) := by
  refine ⟨fun i M1 H1 s hi => ?_, fun i M1 H1 x H2 s dm hi ⟨T, y, y', e1, e2, e3, e4, e5⟩ => ?_, fun i M1 H1 s hi => ?_⟩
  · rw [zipD_length] at hi
    have i1 : i < ds.length := by omega
    have i2 : i < es.length := by omega
    obtain ⟨v, hv, _⟩ := HC.RpA.get p (List.getElem?_eq_getElem i1)
    obtain ⟨v', hv', _⟩ := HC.RpA.get p' (List.getElem?_eq_getElem i2)
    exact ⟨xs, ys, v, v', SqL.of (s a _ ea m).1, SqL.of (s b _ eb m').1, hv, hv'⟩
  · have hx := e4 xs (SqL.of (s a _ ea m).1)
    have hy := e5 ys (SqL.of (s b _ eb m').1)
    obtain ⟨d, h1, h2⟩ := HC.RpA.getV p hx
    obtain ⟨d', h1', h2'⟩ := HC.RpA.getV p' hy
    subst e1 e3
    refine ⟨_, zipD_get h1 h1', same_upd e2, .tup (dm.fresh e2) upd_same ?_⟩
    exact .cons ((h2.step s).step (Stp.grow (same_upd e2))) (.cons ((h2'.step s).step (Stp.grow (same_upd e2))) .nil)
  · rw [zipD_length] at hi
    refine ⟨xs, ys, SqL.of (s a _ ea m).1, SqL.of (s b _ eb m').1, ?_⟩
    rw [HC.RpA.length p, HC.RpA.length p']
    omega
def iZipD (t t' : TP) : TPA := fun r Q E => t r (fun d => t' r (fun d' => match d, d' with
  | .list ds, .list es => Q (zipD ds es)
  | _, _ => False) E) E
theorem di_zip {p tpos : Pos} {e2 : Expr} {t' : TP} {elts : List Expr} {kk : Nat} (G : Good X C W k) (he : DV X C W e t) (he2 : DV X C W e2 t') (hm : X.mg "zip" = none) (hg : Gl X "zip" := by rfl) (hs : starEach [e, e2] X.env = (false, eval e X.env) :: starEach [e2] X.env := by rfl)
    (hs2 : starEach [e2] X.env = (false, eval e2 X.env) :: starEach [] X.env := by rfl) (hpl : (backTo pos (starEach [e2] X.env)).any (·.1) = false := by rfl) : DI X C W (.Tuple elts kk tpos) (.Call (.Name "zip" p) [e, e2] [] pos) (iZipD t t') := by
  have fk := G.fit.k
  refine ⟨(pi_zip hg hm (pa_cons he.pe (pa_cons he2.pe pa_nil hs2) hs) hs hpl).imp fun σ H R ⟨M, r, E, S, hW, q⟩ => ⟨M, r, E, S, hW, he.mo.imp (fun d z v H1 k1 S1 p1 => ⟨M, r, E, S1, hW.mono k1, he2.mo.imp (fun d' z v' H2 k2 S2 p2 => ?_) (fun _ z => z) z⟩) (fun _ z => z) q⟩, ⟨fun hq he' q => he.mo.imp (fun d z => he2.mo.imp (fun d' z => ?_) he' z) he' q⟩⟩
  · split at z
    · have p1' := S1.rp k2 p1
      cases p1' with
      | @lst a xs _ m ea pa =>
        cases p2 with
        | @lst b ys _ m' eb pb => exact ⟨a, b, xs, ys, rfl, SqL.of ea, SqL.of eb, by rw [fk]; exact z _ H2 (k1.trans k2) S2 (yields_zip m ea pa m' eb pb)⟩
    · exact z.elim
  · split at z
    · exact hq _ z
    · exact z
end

/-! ### for -/
/-- the ends of a turn -/
def En.lp (e : En) (n : Env → Prop) : En := { e with nx := n, ct := n, bk := e.nx }
theorem En.Le.lp {e e' : En} {n n' : Env → Prop} (h : En.Le e e') (hn : ∀ r, n r → n' r) : En.Le (e.lp n) (e'.lp n') := ⟨hn, h.rt, h.nx, hn, h.ex⟩
theorem Fits.lp {C : Ct} {W : XW} {M M' : Addr → Prop} {H H' : Hp} {e : En} {De : Ends} {n : Env → Prop} {N : L2.St → Hp → Prop} (f : Fits C W M H e De) (s : Stp M H M' H') (hn : ∀ M2 r σ H2, Stp M H M2 H2 → Sim C M2 r σ H2 → n r → N σ H2) :
    Fits C W M' H' (e.lp n) { De with nx := N, ct := N, bk := De.nx } :=
  ⟨fun M4 r4 σ4 H4 s4 S4 q4 => hn M4 r4 σ4 H4 (s.trans s4) S4 q4, f.rt, fun M4 r4 σ4 H4 s4 S4 q4 => f.nx M4 r4 σ4 H4 (s.trans s4) S4 q4, fun M4 r4 σ4 H4 s4 S4 q4 => hn M4 r4 σ4 H4 (s.trans s4) S4 q4, fun M4 r4 σ4 H4 c s4 S4 q4 => f.ex M4 r4 σ4 H4 c (s.trans s4) S4 q4⟩
/-- the turns -/
def loopW (g : GD) (body : TSD) (e : En) : List D → Env → Prop
  | [], r => e.nx r
  | d :: ds, r => ∃ r1, g d r = some r1 ∧ body (e.lp (loopW g body e ds)) r1
def sFor (u : TPA) (g : GD) (body : TSD) : TSD := fun e r => u r (fun ds => loopW g body e ds r) (e.ex r)
section
variable {X : Cx} {C : Ct} {W : XW} {tg iter : Expr} {u : TPA} {pos : Pos} {k : Nat} {g : GD} {is : List Nat} {body : TSD} {sts : List Stmt}
theorem mono_loop (hb : MonoS body) {e e' : En} (h : En.Le e e') : ∀ (ds : List D) (r : Env), loopW g body e ds r → loopW g body e' ds r
  | [], r, q => h.nx r q
  | d :: ds, r, ⟨r1, e1, q⟩ => ⟨r1, e1, hb.imp (h.lp fun r' z => mono_loop hb h ds r' z) q⟩
theorem loop_drop {ds : List D} {i : Nat} {d : D} (h : ds[i]? = some d) : ds.drop i = d :: ds.drop (i + 1) := by
  obtain ⟨hi, e⟩ := List.getElem?_eq_some_iff.mp h
  rw [List.drop_eq_getElem_cons hi, e]
theorem ds_for (G : Good X C W k) (hi : DI X C W tg iter u) (hg : DG X C tg is g) (hb : DSs X C W sts body) (hs : ∀ x, foldedSetIterable iter X.env x = pure x := by intro _; rfl) : DS X C W (.For tg iter sts [] pos) (sFor u g body) := by
  refine ⟨(ps_for G.own G.calm hi.pi hg.pg hb.ps hs).imp fun De σ H ⟨M, r, e, S, f, q⟩ => ⟨M, r, e.ex r, S, f.wish S, hi.mo.imp (fun ds z J H1 k1 S1 Y => ?_) (fun _ z => z) q⟩, ⟨fun h q => hi.mo.imp (fun ds z => mono_loop hb.mo h ds _ z) (fun c z => h.ex _ c z) q⟩⟩
  have s1 : Stp M H M H1 := S.stp k1
  refine ⟨fun i m σ' H' => m = ds.length - i ∧ i ≤ ds.length ∧ ∃ M' r', Stp M H1 M' H' ∧ Sim C M' r' σ' H' ∧ loopW g body e (ds.drop i) r', ⟨ds.length, by simp, Nat.zero_le _, M, r, Stp.refl, S1, z⟩, ?_⟩
  rintro i m σ' H' ⟨rfl, hle, M', r', st, S', z'⟩
  by_cases hlt : i < ds.length
  · refine .inr ⟨Y.go i M' H' st hlt, fun σ2 H2 => ∃ M2 r2, Stp M H1 M2 H2 ∧ Sim C M2 r2 σ2 H2 ∧ loopW g body e (ds.drop (i + 1)) r2, fun σ2 H2 ⟨M2, r2, t2, S2, z2⟩ => ⟨ds.length - (i + 1), by omega, rfl, hlt, M2, r2, t2, S2, z2⟩, fun x H2 y => ?_⟩
    obtain ⟨d, hd, sm, p⟩ := Y.yld i M' H' x H2 st S'.dom hlt y
    rw [loop_drop hd] at z'
    obtain ⟨r1, e1, z'⟩ := z'
    have S2 := S'.same sm
    have st2 : Stp M H1 M' H2 := st.trans (Stp.grow sm)
    exact ⟨M', r', d, r1, S2, p, e1, fun σ3 S3 _ => ⟨M', r1, _, S3, (f.step s1).lp st2 fun M4 r4 σ4 H4 s4 S4 q4 => ⟨M4, r4, s4, S4, q4⟩, z'⟩⟩
  · have ei : i = ds.length := by omega
    subst ei
    rw [List.drop_length] at z'
    exact .inl ⟨Y.stop _ M' H' st (Nat.le_refl _), f.nx M' r' σ' H' (s1.trans st) S' z'⟩
/-- by an invariant -/
theorem loop_inv {e : En} (P : List D → Env → Prop) : ∀ (ds : List D) (r : Env), P ds r → (∀ r, P [] r → e.nx r) →
    (∀ d ds r, P (d :: ds) r → ∃ r1, g d r = some r1 ∧ body (e.lp (P ds)) r1) → MonoS body → loopW g body e ds r
  | [], r, h, hn, _, _ => hn r h
  | d :: ds, r, h, hn, hs, hb => by
    obtain ⟨r1, e1, z⟩ := hs d ds r h
    exact ⟨r1, e1, hb.imp ((En.Le.refl e).lp fun r' z => loop_inv P ds r' z hn hs hb) z⟩

/-! ### while -/
def sWhile (b : TB) (body : TSD) : TSD := fun e r => ∃ I : Nat → Env → Prop, (∃ m, I m r) ∧ ∀ m r, I m r → b r (fun k => if k = true then body (e.lp fun r' => ∃ m', m' < m ∧ I m' r') r else e.nx r) (e.ex r)
theorem ds_while {c : Expr} {b : TB} (G : Good X C W k) (hc : DT X C W c b) (hb : DSs X C W sts body) : DS X C W (.While c sts [] pos) (sWhile b body) := by
  refine ⟨(ps_while G.own hc.pt hb.ps).imp fun De σ H ⟨M, r, e, S, f, I, ⟨m, hm⟩, step⟩ => ?_, ⟨fun {e e' r} h ⟨I, h0, hs⟩ => ⟨I, h0, fun m r hm => hc.mo.imp (fun k z => ?_) (fun c z => h.ex _ c z) (hs m r hm)⟩⟩⟩
  · refine ⟨fun m σ' H' => ∃ M' r', Stp M H M' H' ∧ Sim C M' r' σ' H' ∧ I m r', ⟨m, M, r, Stp.refl, S, hm⟩, ?_⟩
    rintro m σ' H' ⟨M', r', st, S', hI⟩
    refine ⟨M', r', e.ex r', S', (f.step st).wish S', hc.mo.imp (fun k z H2 k2 S2 => ?_) (fun _ z => z) (step m r' hI)⟩
    have st2 : Stp M H M' H2 := st.trans (S'.stp k2)
    cases k with
    | true =>
      exact ⟨fun σ3 H3 => ∃ m' M3 r3, m' < m ∧ Stp M H M3 H3 ∧ Sim C M3 r3 σ3 H3 ∧ I m' r3, fun σ3 H3 ⟨m', M3, r3, l, a, b, c⟩ => ⟨m', l, M3, r3, a, b, c⟩, M', r', _, S2, f.lp st2 fun M4 r4 σ4 H4 s4 S4 ⟨m', l, q4⟩ => ⟨m', M4, r4, l, s4, S4, q4⟩, z⟩
    | false => exact f.nx M' r' σ' H2 st2 S2 z
  · cases k with
    | true => exact hb.mo.imp (h.lp fun _ z => z) z
    | false => exact h.nx _ z
end
end HC
/-! HC8: new objects, comprehensions, several targets at once, raise, defs. -/
namespace HC
open PySem PySem.Spec PyProof.Rows L2

/-! ### expressions that make a new object -/
def lN (C : Ct) (W : XW) (t : TP) : TE := fun σ H Q => ∃ M r E, Sim C M r σ H ∧ Wish C W M r σ H E ∧
  t r (fun d => ∀ p H', C.Ex H H' → H p = none → Sim C (fun a => M a ∨ a = p) r σ H' → C.Top (fun a => M a ∨ a = p) H' p d → Q (.ref p) H') E
structure DN (X : Cx) (C : Ct) (W : XW) (e : Expr) (t : TP) : Prop where
  pe : PE X e (lN C W t)
  mo : Mono t
def xOwn (t : TP) : TX := fun r Q E => t r (fun d => Q (.own d)) E
section
variable {X : Cx} {C : Ct} {W : XW} {e : Expr} {es : List Expr} {t : TP} {u : TPA} {pos : Pos} {k : Nat}
/-- a new object that nobody will change -/
theorem Sim.drop {M : Addr → Prop} {r : Env} {σ : L2.St} {H H' : Hp} {p : Addr} (S : Sim C M r σ H) (hp : H p = none) (S' : Sim C (fun a => M a ∨ a = p) r σ H') : Sim C M r σ H' := by
  have st : Stp (fun a => M a ∨ a = p) H' M H' := Stp.less fun a m => .inl m
  refine ⟨S'.len, fun i d q => ?_, fun i d q => ?_, S'.sep, S'.tk, S'.base.to st, S.m0, fun a m => S'.dom a (.inl m), S.inm⟩
  · obtain ⟨v, h1, h2⟩ := S'.val i d q
    exact ⟨v, h1, h2.step st⟩
  · obtain ⟨a, h1, h2, h3, h4, h5⟩ := S'.own i d q
    obtain ⟨b, g1, g2, _⟩ := S.own i d q
    rw [h1] at g1
    cases g1
    exact ⟨a, h1, g2, h3, h4, h5.step st fun o z => z⟩
theorem DN.x (h : DN X C W e t) : DX X C W e (xOwn t) :=
  ⟨h.pe.imp fun σ H Q ⟨M, r, E, S, hW, q⟩ => ⟨M, r, E, S, hW, h.mo.imp (fun d z p H' k' hp S' tp => z _ _ H' k' ⟨fun a m => .inl m, fun a m => m.elim .inl fun e => .inr (e ▸ hp)⟩ S' (.own (.inr rfl) hp tp)) (fun _ z => z) q⟩, ⟨fun hq he q => h.mo.imp (fun d z => hq _ z) he q⟩⟩
theorem DN.v (h : DN X C W e t) : DV X C W e t :=
  ⟨h.pe.imp fun σ H Q ⟨M, r, E, S, hW, q⟩ => ⟨M, r, E, S, hW, h.mo.imp (fun d z p H' k' hp S' tp => z _ H' k' (S.drop hp S') ((tp.step (Stp.less fun a m => .inl m) fun o z => z).rp (S.fresh hp))) (fun _ z => z) q⟩, h.mo⟩
theorem dn_lst (h : DAv X C W es u) (hl : es.length ≤ 1000 := by decide) : DN X C W (.List es pos) (wLst u) := by
  refine ⟨(pe_lst h.pa).imp fun σ H Q ⟨M, r, E, S, hW, q⟩ => ⟨M, r, E, S, hW, h.mo.imp (fun ds hd z vs H1 k1 S1 p1 => ⟨le1000 (by rw [HC.RpA.length p1, hd]; exact hl), fun p hp => ?_⟩) (fun _ z => z) q⟩, ⟨fun hq he q => h.mo.imp (fun _ _ z => hq _ z) he q⟩⟩
  have S2 := S1.take (p := p) (H' := upd H1 p (.lst vs)) hp (same_upd hp) (by rw [upd_same]; simp)
  refine z p _ (k1.trans (Same.ex (same_upd hp))) (S1.none_of k1 hp) S2 (.lst upd_same ?_)
  exact HC.RpA.step (fun a o e m => ⟨same_upd hp a o e, fun z => z.elim m fun q => by rw [q, hp] at e; cases e⟩) p1
end

/-! ### comprehensions -/
def W0 : XW := fun _ _ _ _ => False
def E0' : Addr → Prop := fun _ => False
def wipeD (r : Env) : List Nat → Env
  | [] => r
  | v :: vs => (wipeD r vs).set v .un
theorem Sim.un {C : Ct} {M : Addr → Prop} {r : Env} {σ : L2.St} {H : Hp} (S : Sim C M r σ H) (i : Nat) : Sim C M (r.set i .un) (σ.set i none) H := by
  have hl : (r.set i Sl.un).length = r.length := List.length_set ..
  have ne : ∀ {j : Nat} {x : Sl}, x ≠ .un → (r.set i .un)[j]? = some x → i ≠ j := fun {j x} hx q z => by
    subst z
    by_cases hi : i < r.length
    · rw [List.getElem?_set_self hi] at q; cases q; exact hx rfl
    · rw [List.getElem?_eq_none (by rw [hl]; omega)] at q; cases q
  refine ⟨by rw [List.length_set, List.length_set]; exact S.len, fun j d q => ?_, fun j d q => ?_, fun j b x y c q1 q2 q3 q4 => ?_, fun j q => ?_, S.base, S.m0, S.dom, S.inm⟩
  · have n := ne (by simp) q
    rw [List.getElem?_set_ne n] at q ⊢
    exact S.val j d q
  · have n := ne (by simp) q
    rw [List.getElem?_set_ne n] at q ⊢
    exact S.own j d q
  · have n1 := ne (by simp) q1
    have n2 := ne (by simp) q2
    rw [List.getElem?_set_ne n1] at q1 q3
    rw [List.getElem?_set_ne n2] at q2 q4
    exact S.sep j b x y c q1 q2 q3 q4
  · rename_i x'
    by_cases hx : x' = .un
    · subst hx; exact trivial
    · have n := ne hx q
      rw [List.getElem?_set_ne n] at q ⊢
      exact S.tk j q
theorem Sim.wipe {C : Ct} {M : Addr → Prop} {r : Env} {σ : L2.St} {H : Hp} (S : Sim C M r σ H) : ∀ vs : List Nat, Sim C M (wipeD r vs) (L2.wipe σ vs) H
  | [] => S
  | v :: vs => (Sim.wipe S vs).un v
structure DTs (X : Cx) (C : Ct) (W : XW) (ifs : List Expr) (t : TB) : Prop where
  pt : PTs X ifs (lB C W t)
  mo : MonoB t
def bYes : TB := fun _ Q _ => Q true
theorem _root_.L2.PTs.imp {X : Cx} {e : List Expr} {t t' : TT} (h : PTs X e t) (hi : ∀ σ H Q, t' σ H Q → t σ H Q) : PTs X e t' := ⟨fun pins s σ H Q I q => h.run pins s σ H Q I (hi _ _ _ q)⟩
theorem dts_nil {X : Cx} {C : Ct} {W : XW} : DTs X C W [] bYes := ⟨pts_nil.imp fun σ H Q ⟨M, r, E, S, hW, q⟩ => q H Ct.Ex.refl S, ⟨fun hq _ h => hq _ h⟩⟩
theorem dts_one {X : Cx} {C : Ct} {W : XW} {c : Expr} {t : TB} (h : DT X C W c t) : DTs X C W [c] t := ⟨pts_one h.pt, h.mo⟩
def compW (g : GD) (tt : TB) (te : TP) (r : Env) : List D → (List D → Prop) → Prop
  | [], Q => Q []
  | d :: ds, Q => ∃ r1, g d r = some r1 ∧ tt r1 (fun b => if b = true then te r1 (fun y => compW g tt te r ds (fun ys => Q (y :: ys))) E0' else compW g tt te r ds Q) E0'
def wComp (vs : List Nat) (u : TPA) (g : GD) (tt : TB) (te : TP) : TP := fun r Q E => u r (fun ds => ds.length ≤ sizeLine ∧ compW g tt te (wipeD r vs) ds fun ys => Q (.list ys)) E
section
variable {g : GD} {tt : TB} {te : TP}
theorem mono_compW (ht : MonoB tt) (he : Mono te) (r : Env) : ∀ (ds : List D) {Q Q' : List D → Prop}, (∀ d, Q d → Q' d) → compW g tt te r ds Q → compW g tt te r ds Q'
  | [], _, _, h, q => h _ q
  | d :: ds, Q, Q', h, ⟨r1, e1, q⟩ => ⟨r1, e1, ht.imp (fun b z => by
    cases b with
    | true => exact he.imp (fun y w => mono_compW ht he r ds (fun ys v => h _ v) w) (fun _ z => z) z
    | false => exact mono_compW ht he r ds h z) (fun _ z => z) q⟩
theorem mono_comp {vs : List Nat} {u : TPA} (hu : MonoI u) (ht : MonoB tt) (he : Mono te) : Mono (wComp vs u g tt te) := ⟨fun hq hE q => hu.imp (fun ds ⟨l, z⟩ => ⟨l, mono_compW ht he _ ds (fun ys w => hq _ w) z⟩) hE q⟩
variable {X : Cx} {C : Ct} {W : XW} {elt tg iter : Expr} {ifs : List Expr} {scope : Scope} {own : List (Str × Nat)} {is : List Nat} {u : TPA} {pos : Pos} {k : Nat}
/-- the block's frame -/
theorem Good.blk (G : Good X C W k) (s : Shared) (H : Hp) (Ca : Addr) (cl : List (Str × Addr)) (fp : List Addr) : Good (X.blk s H scope (compEnvC scope cl Ca X.env) fp) C W0 k :=
  ⟨⟨G.fit.k, G.fit.p, G.fit.w⟩, G.calm, G.room, fun σ pins H s e s' I c => by
    obtain ⟨a, B, H', cls, d, _, _, _, _, _, _, _, z⟩ := c
    exact z.elim, PassesOwn.never, G.nd⟩
theorem run_comp (hu : MonoI u) (ht : MonoB tt) (he : Mono te) (hi : ∀ i ∈ is, i ∈ own.map (·.2)) {σ : L2.St} {H : Hp} {Q : VK} (h : lN C W (wComp (own.map (·.2)) u g tt te) σ H Q) :
    tLc (lI C W u) (lG C is g) (lB C W0 tt) (lV C W0 te) (own.map (·.2)) σ H Q := by
  obtain ⟨M, r, E, S, hW, q⟩ := h
  refine ⟨M, r, E, S, hW, hu.imp (fun ds ⟨hl, z⟩ J H1 k1 S1 Y D hD => ?_) (fun _ z => z) q⟩
  have nD : ¬ M D := S1.fresh hD
  have n0 := S1.newH0 hD
  have ntD : ¬ C.inT D := fun t => n0.2 (S1.inm D t)
  -- what may change is M or D
  have S2 : Sim C (fun a => M a ∨ a = D) r σ (upd H1 D (.lst [])) := S1.take hD (same_upd hD) (by rw [upd_same]; simp)
  have stD : Stp M H1 (fun a => M a ∨ a = D) (upd H1 D (.lst [])) := fun a o e m => ⟨same_upd hD a o e, fun z => z.elim m fun q => by rw [q, hD] at e; cases e⟩
  refine ⟨fun i m H' => m = ds.length - i ∧ i ≤ ds.length ∧ C.Ex H1 H' ∧ Sim C (fun a => M a ∨ a = D) r σ H' ∧ Stp M H1 (fun a => M a ∨ a = D) H' ∧ ∃ acc ys, H' D = some (.lst acc) ∧ C.RpA (fun a => M a ∨ a = D) H' acc ys ∧ ys.length ≤ i ∧
    compW g tt te (wipeD r (own.map (·.2))) (ds.drop i) (fun zs => (∀ p H', C.Ex H H' → H p = none → Sim C (fun a => M a ∨ a = p) r σ H' → C.Top (fun a => M a ∨ a = p) H' p (.list (ys ++ zs)) → Q (.ref p) H')),
    ⟨ds.length, by simp, Nat.zero_le _, Same.ex (same_upd hD), S2, stD, [], [], upd_same, .nil, Nat.le_refl _, z⟩, ?_⟩
  rintro i m H' ⟨rfl, hle, kx, S', st', acc, ys, eD, pA, ly, z'⟩
  by_cases hlt : i < ds.length
  · refine .inr ⟨Y.go i _ H' st' hlt, fun H2 => C.Ex H1 H2 ∧ Sim C (fun a => M a ∨ a = D) r σ H2 ∧ Stp M H1 (fun a => M a ∨ a = D) H2 ∧ ∃ acc ys, H2 D = some (.lst acc) ∧ C.RpA (fun a => M a ∨ a = D) H2 acc ys ∧ ys.length ≤ i + 1 ∧
      compW g tt te (wipeD r (own.map (·.2))) (ds.drop (i + 1)) (fun zs => (∀ p H', C.Ex H H' → H p = none → Sim C (fun a => M a ∨ a = p) r σ H' → C.Top (fun a => M a ∨ a = p) H' p (.list (ys ++ zs)) → Q (.ref p) H')), fun H2 h2 => ⟨ds.length - (i + 1), by omega, rfl, hlt, h2⟩, fun x H2 y => ?_⟩
    obtain ⟨d, hd, sm, p⟩ := Y.yld i _ H' x H2 st' S'.dom hlt y
    rw [loop_drop hd] at z'
    obtain ⟨r1, e1, z'⟩ := z'
    have SA := S'.same sm
    have wS := SA.wipe (own.map (·.2))
    refine ⟨_, _, d, r1, wS, p, e1, fun σ3 S3 w3 => ⟨?_, ?_⟩⟩
    · have e := w3 (own.map (·.2)) hi
      rw [e]
      -- wiping twice
      have tw : ∀ (vs ws : List Nat), (∀ v ∈ vs, v ∈ ws) → L2.wipe (L2.wipe σ vs) ws = L2.wipe σ ws := by
        intro vs
        induction vs with
        | nil => intro ws _; rfl
        | cons v vs ih =>
          intro ws hv
          show L2.wipe ((L2.wipe σ vs).set v none) ws = _
          rw [wipe_set (hv v (by simp))]
          exact ih ws fun x hx => hv x (List.mem_cons_of_mem _ hx)
      exact tw _ _ fun _ h => h
    · refine ⟨_, r1, E0', S3, fun c H4 _ _ z => z, ht.imp (fun b z H4 k4 S4 => ?_) (fun _ z => z) z'⟩
      have kx4 : C.Ex H' H4 := (Same.ex sm).trans k4
      have SB : Sim C (fun a => M a ∨ a = D) r σ H4 := SA.grow k4 S4.base.tok
      have st4 : Stp M H1 (fun a => M a ∨ a = D) H4 := st'.trans (S'.stp kx4)
      cases b with
      | true =>
        refine ⟨_, r1, E0', S4, fun c H4 _ _ z => z, he.imp (fun yd w vy H5 k5 S5 p5 => ?_) (fun _ z => z) z⟩
        have kx5 : C.Ex H' H5 := kx4.trans k5
        have eD5 : H5 D = some (.lst acc) := kx5 D _ ntD eD
        have SC : Sim C (fun a => M a ∨ a = D) r σ H5 := SB.grow k5 S5.base.tok
        have st5 : Stp M H1 (fun a => M a ∨ a = D) H5 := st'.trans (S'.stp kx5)
        have pA5 : C.RpA (fun a => M a ∨ a = D) H5 acc ys := HC.RpA.step (S'.stp kx5) pA
        refine ⟨acc, eD5, by rw [HC.RpA.length pA]; omega, ?_⟩
        -- the list at D grows
        have stU : Stp (fun a => M a ∨ a = D) H5 (fun a => M a ∨ a = D) (upd H5 D (.lst (acc ++ [vy]))) := fun b x e n => ⟨by rw [upd_ne (fun z : b = D => n (.inr z))]; exact e, n⟩
        have SD : Sim C (fun a => M a ∨ a = D) r σ (upd H5 D (.lst (acc ++ [vy]))) := by
          refine ⟨SC.len, fun j dd q => ?_, fun j dd q => ?_, SC.sep, SC.tk, ⟨fun b x n e => ?_, ?_⟩, SC.m0, fun b mb zz => ?_, SC.inm⟩
          · obtain ⟨v, h1, h2⟩ := SC.val j dd q
            exact ⟨v, h1, h2.step stU⟩
          · obtain ⟨a, h1, h2, h3, h4, h5⟩ := SC.own j dd q
            obtain ⟨b, g1, g2, _⟩ := S1.own j dd q
            rw [h1] at g1
            cases g1
            exact ⟨a, h1, h2, h3, h4, h5.step stU fun o zz => by
              rw [upd_ne (fun y : a = D => nD (y ▸ g2))]
              exact zz⟩
          · rw [upd_ne (fun zz : b = D => by rw [zz, n0.1] at e; cases e)]
            exact SC.base.keep b x n e
          · exact tok_step stU (fun b hb => upd_ne (fun z => ntD (z ▸ hb))) SC.base.tok
          · by_cases hb : b = D
            · subst hb; rw [upd_same] at zz; cases zz
            · rw [upd_ne hb] at zz; exact SC.dom b mb zz
        refine ⟨fun b x n e => ?_, SD, st5.trans stU, acc ++ [vy], ys ++ [yd], upd_same, HC.RpA.append (HC.RpA.step stU pA5) (.cons (HC.Rp.step stU p5) .nil), by rw [List.length_append]; show ys.length + 1 ≤ i + 1; omega, ?_⟩
        · rw [upd_ne (fun zz : b = D => by rw [zz, hD] at e; cases e)]
          exact kx5 b x n (kx b x n e)
        · refine mono_compW ht he _ _ (fun zs v p H' a b c tp => v p H' a b c ?_) w
          have e : ys ++ [yd] ++ zs = ys ++ yd :: zs := by rw [List.append_assoc]; rfl
          rw [e] at tp
          exact tp
      | false => exact ⟨kx.trans kx4, SB, st4, acc, ys, kx4 D _ ntD eD, HC.RpA.step (S'.stp kx4) pA, by omega, z⟩
  · have ei : i = ds.length := by omega
    subst ei
    rw [List.drop_length] at z'
    refine .inl ⟨Y.stop _ _ H' st' (Nat.le_refl _), ?_⟩
    have z'' : (∀ p H', C.Ex H H' → H p = none → Sim C (fun a => M a ∨ a = p) r σ H' → C.Top (fun a => M a ∨ a = p) H' p (.list (ys ++ [])) → Q (.ref p) H') := z'
    rw [List.append_nil] at z''
    exact z'' D H' (k1.trans kx) (S1.none_of k1 hD) S' (.lst eD pA)
theorem dn_comp (own : List (Str × Nat)) (G : Good X C W k) (hi : DI X C W tg iter u) (ok : BlkOk X.N X.env.scope scope own)
    (hg : ∀ (s : Shared) (H : Hp) (Ca : Addr) (cl : List (Str × Addr)) (fp : List Addr), Good (X.blk s H scope (compEnvC scope cl Ca X.env) fp) C W0 k → DG (X.blk s H scope (compEnvC scope cl Ca X.env) fp) C tg is g)
    (ht : ∀ (s : Shared) (H : Hp) (Ca : Addr) (cl : List (Str × Addr)) (fp : List Addr), Good (X.blk s H scope (compEnvC scope cl Ca X.env) fp) C W0 k → DTs (X.blk s H scope (compEnvC scope cl Ca X.env) fp) C W0 ifs tt)
    (he : ∀ (s : Shared) (H : Hp) (Ca : Addr) (cl : List (Str × Addr)) (fp : List Addr), Good (X.blk s H scope (compEnvC scope cl Ca X.env) fp) C W0 k → DV (X.blk s H scope (compEnvC scope cl Ca X.env) fp) C W0 elt te)
    (his : ∀ i ∈ is, i ∈ own.map (·.2) := by decide) (hs : ∀ x, foldedSetIterable iter X.env x = pure x := by intro _; rfl) :
    DN X C W (.ListComp elt [⟨tg, iter, ifs, 0⟩] scope pos) (wComp (own.map (·.2)) u g tt te) := by
  have mt : MonoB tt := (ht X.s_0 (fun _ => none) 0 [] [] (G.blk _ _ _ _ _)).mo
  have me : Mono te := (he X.s_0 (fun _ => none) 0 [] [] (G.blk _ _ _ _ _)).mo
  refine ⟨(pe_lc G.calm G.nd hi.pi ok (fun s H Ca cl fp => (hg s H Ca cl fp (G.blk ..)).pg) (fun s H Ca cl fp => (ht s H Ca cl fp (G.blk ..)).pt) (fun s H Ca cl fp => (he s H Ca cl fp (G.blk ..)).pe) hs).imp fun σ H Q h => run_comp hi.mo mt me his h, mono_comp hi.mo mt me⟩
theorem ds_setLc (i : Nat) {y : Str} {py spos : Pos} (own : List (Str × Nat)) (G : Good X C W k) (hi : DI X C W tg iter u) (ok : BlkOk X.N X.env.scope scope own)
    (hg : ∀ (s : Shared) (H : Hp) (Ca : Addr) (cl : List (Str × Addr)) (fp : List Addr), Good (X.blk s H scope (compEnvC scope cl Ca X.env) fp) C W0 k → DG (X.blk s H scope (compEnvC scope cl Ca X.env) fp) C tg is g)
    (ht : ∀ (s : Shared) (H : Hp) (Ca : Addr) (cl : List (Str × Addr)) (fp : List Addr), Good (X.blk s H scope (compEnvC scope cl Ca X.env) fp) C W0 k → DTs (X.blk s H scope (compEnvC scope cl Ca X.env) fp) C W0 ifs tt)
    (he : ∀ (s : Shared) (H : Hp) (Ca : Addr) (cl : List (Str × Addr)) (fp : List Addr), Good (X.blk s H scope (compEnvC scope cl Ca X.env) fp) C W0 k → DV (X.blk s H scope (compEnvC scope cl Ca X.env) fp) C W0 elt te)
    (hsw : swapsWith (.ListComp elt [⟨tg, iter, ifs, 0⟩] scope pos) (some (.Name y py)) spos.line X.env = pure true) (hy : X.N[i]? = some y := by rfl) (hyl : X.env.scope.names.lookup y = some .local := by rfl)
    (his : ∀ i ∈ is, i ∈ own.map (·.2) := by decide) (hs : ∀ x, foldedSetIterable iter X.env x = pure x := by intro _; rfl) :
    DS X C W (.Assign [.Name y py] (.ListComp elt [⟨tg, iter, ifs, 0⟩] scope pos) spos) (sAsg i (xOwn (wComp (own.map (·.2)) u g tt te))) := by
  have mt : MonoB tt := (ht X.s_0 (fun _ => none) 0 [] [] (G.blk _ _ _ _ _)).mo
  have me : Mono te := (he X.s_0 (fun _ => none) 0 [] [] (G.blk _ _ _ _ _)).mo
  have mo := mono_comp (vs := own.map (·.2)) (g := g) hi.mo mt me
  refine ⟨(ps_setLc G.calm G.nd hy hyl hsw hi.pi ok (fun s H Ca cl fp => (hg s H Ca cl fp (G.blk ..)).pg) (fun s H Ca cl fp => (ht s H Ca cl fp (G.blk ..)).pt) (fun s H Ca cl fp => (he s H Ca cl fp (G.blk ..)).pe) hs).imp fun De σ H ⟨M, r, e, S, f, q⟩ => ?_, ⟨fun {e e' r} h q => mo.imp (fun d z => h.nx _ z) (fun c z => h.ex _ c z) (show wComp (own.map (·.2)) u g tt te r (fun d => e.nx (r.set i (.own d))) (e.ex r) from q)⟩⟩
  refine run_comp hi.mo mt me his ⟨M, r, e.ex r, S, f.wish S, mo.imp (fun d z p H' k' hp S' tp => ?_) (fun _ z => z) (show wComp (own.map (·.2)) u g tt te r (fun d => e.nx (r.set i (.own d))) (e.ex r) from q)⟩
  have g' : Grow M (fun a => M a ∨ a = p) H := ⟨fun a m => .inl m, fun a m => m.elim .inl fun e => .inr (e ▸ hp)⟩
  exact f.nx _ _ _ H' (g'.stp S k') (S.setSl S' (.own (.inr rfl) hp tp)) z
/-- .. that nobody will change -/
theorem ds_setLcV (i : Nat) {y : Str} {py spos : Pos} (own : List (Str × Nat)) (G : Good X C W k) (hi : DI X C W tg iter u) (ok : BlkOk X.N X.env.scope scope own)
    (hg : ∀ (s : Shared) (H : Hp) (Ca : Addr) (cl : List (Str × Addr)) (fp : List Addr), Good (X.blk s H scope (compEnvC scope cl Ca X.env) fp) C W0 k → DG (X.blk s H scope (compEnvC scope cl Ca X.env) fp) C tg is g)
    (ht : ∀ (s : Shared) (H : Hp) (Ca : Addr) (cl : List (Str × Addr)) (fp : List Addr), Good (X.blk s H scope (compEnvC scope cl Ca X.env) fp) C W0 k → DTs (X.blk s H scope (compEnvC scope cl Ca X.env) fp) C W0 ifs tt)
    (he : ∀ (s : Shared) (H : Hp) (Ca : Addr) (cl : List (Str × Addr)) (fp : List Addr), Good (X.blk s H scope (compEnvC scope cl Ca X.env) fp) C W0 k → DV (X.blk s H scope (compEnvC scope cl Ca X.env) fp) C W0 elt te)
    (hsw : swapsWith (.ListComp elt [⟨tg, iter, ifs, 0⟩] scope pos) (some (.Name y py)) spos.line X.env = pure true) (hy : X.N[i]? = some y := by rfl) (hyl : X.env.scope.names.lookup y = some .local := by rfl)
    (his : ∀ i ∈ is, i ∈ own.map (·.2) := by decide) (hs : ∀ x, foldedSetIterable iter X.env x = pure x := by intro _; rfl) :
    DS X C W (.Assign [.Name y py] (.ListComp elt [⟨tg, iter, ifs, 0⟩] scope pos) spos) (sAsg i (xVal (wComp (own.map (·.2)) u g tt te))) := by
  have mt : MonoB tt := (ht X.s_0 (fun _ => none) 0 [] [] (G.blk _ _ _ _ _)).mo
  have me : Mono te := (he X.s_0 (fun _ => none) 0 [] [] (G.blk _ _ _ _ _)).mo
  have mo := mono_comp (vs := own.map (·.2)) (g := g) hi.mo mt me
  refine ⟨(ps_setLc G.calm G.nd hy hyl hsw hi.pi ok (fun s H Ca cl fp => (hg s H Ca cl fp (G.blk ..)).pg) (fun s H Ca cl fp => (ht s H Ca cl fp (G.blk ..)).pt) (fun s H Ca cl fp => (he s H Ca cl fp (G.blk ..)).pe) hs).imp fun De σ H ⟨M, r, e, S, f, q⟩ => ?_, ⟨fun {e e' r} h q => mo.imp (fun d z => h.nx _ z) (fun c z => h.ex _ c z) (show wComp (own.map (·.2)) u g tt te r (fun d => e.nx (r.set i (.val d))) (e.ex r) from q)⟩⟩
  refine run_comp hi.mo mt me his ⟨M, r, e.ex r, S, f.wish S, mo.imp (fun d z p H' k' hp S' tp => ?_) (fun _ z => z) (show wComp (own.map (·.2)) u g tt te r (fun d => e.nx (r.set i (.val d))) (e.ex r) from q)⟩
  exact f.nx M _ _ H' (S.stp k') ((S.drop hp S').set ((tp.step (Stp.less fun a m => .inl m) fun o z => z).rp (S.fresh hp))) z
end
end HC
/-! HC9: several targets at once, op=, raise, defs. -/
namespace HC
open PySem PySem.Spec PyProof.Rows L2

/-! ### right sides of a, b = x, y -/
abbrev TXA := Env → (List Sl → Prop) → (Addr → Prop) → Prop
inductive SlRA (C : Ct) (M : Addr → Prop) (H : Hp) (N : Addr → Prop) : List V → List Sl → Prop
  | nil : SlRA C M H N [] []
  | cons {v : V} {s : Sl} {vs : List V} {ss : List Sl} : SlR C M H N v s → SlRA C M H N vs ss → (∀ (a : Addr) (d : D) (j : Nat) (e : D), v = .ref a → s = .own d → ss[j]? = some (.own e) → vs[j]? ≠ some (.ref a)) → SlRA C M H N (v :: vs) (s :: ss)
def lAx (C : Ct) (W : XW) (t : TXA) : TA := fun σ H Q => ∃ M r E, Sim C M r σ H ∧ Wish C W M r σ H E ∧ t r (fun ss => ∀ vs M' H', C.Ex H H' → Grow M M' H → Sim C M' r σ H' → SlRA C M' H' (fun a => H a = none) vs ss → Q vs H') E
structure MonoXA (n : Nat) (t : TXA) : Prop where
  imp : ∀ {r : Env} {Q Q' : List Sl → Prop} {E E' : Addr → Prop}, (∀ d, d.length = n → Q d → Q' d) → (∀ c, E c → E' c) → t r Q E → t r Q' E'
structure DAx (X : Cx) (C : Ct) (W : XW) (es : List Expr) (t : TXA) : Prop where
  pa : PA X es (lAx C W t)
  mo : MonoXA es.length t
def xNil : TXA := fun _ Q _ => Q []
def xCons (t : TX) (u : TXA) : TXA := fun r Q E => t r (fun x => u r (fun xs => Q (x :: xs)) E) E
section
variable {X : Cx} {C : Ct} {W : XW} {e : Expr} {es : List Expr} {t : TX} {u : TXA} {pos : Pos} {k : Nat}
theorem dax_nil : DAx X C W [] xNil := ⟨pa_nil.imp fun σ H Q ⟨M, r, E, S, hW, q⟩ => q [] M H Ct.Ex.refl Grow.refl S .nil, ⟨fun hq _ h => hq _ rfl h⟩⟩
theorem Wish.grow {M M' : Addr → Prop} {r : Env} {σ : L2.St} {H H1 : Hp} {E : Addr → Prop} (h : Wish C W M r σ H E) (S : Sim C M r σ H) (k : C.Ex H H1) (g : Grow M M' H) : Wish C W M' r σ H1 E := fun c H' k' S' q => by
  refine h c H' (k.trans k') ?_ q
  have st : Stp M' H' M H' := Stp.less g.up
  refine ⟨S'.len, fun i d z => ?_, fun i d z => ?_, S'.sep, S'.tk, S'.base.to st, S.m0, fun a m => S'.dom a (g.up a m), S.inm⟩
  · obtain ⟨v, h1, h2⟩ := S'.val i d z
    exact ⟨v, h1, h2.step st⟩
  · obtain ⟨a, h1, h2, h3, h4, h5⟩ := S'.own i d z
    obtain ⟨b, g1, g2, _⟩ := S.own i d z
    rw [h1] at g1
    cases g1
    exact ⟨a, h1, g2, h3, h4, h5.step st fun o y => y⟩
theorem Stp.slr {M M' : Addr → Prop} {H H' : Hp} {N : Addr → Prop} {v : V} {s : Sl} (st : Stp M H M' H') (up : ∀ a, M a → M' a) (nt : ∀ a, N a → M a → ¬ C.inT a) (k : C.Ex H H') (p : SlR C M H N v s) : SlR C M' H' N v s := by
  cases p with
  | val p => exact .val (HC.Rp.step st p)
  | own m n p => exact .own (up _ m) n (HC.Top.step st (fun o z => k _ o (nt _ n m) z) p)
theorem dax_cons (h : DX X C W e t) (h' : DAx X C W es u) (hs : starEach (e :: es) X.env = (false, eval e X.env) :: starEach es X.env := by rfl) : DAx X C W (e :: es) (xCons t u) := by
  refine ⟨(pa_cons h.pe h'.pa hs).imp fun σ H Q ⟨M, r, E, S, hW, q⟩ => ⟨M, r, E, S, hW, h.mo.imp (fun x z v M1 H1 k1 g1 S1 p1 => ⟨M1, r, E, S1, hW.grow S k1 g1, h'.mo.imp (fun xs _ y vs M2 H2 k2 g2 S2 p2 => ?_) (fun _ z => z) z⟩) (fun _ z => z) q⟩,
    ⟨fun hq he q => h.mo.imp (fun x z => h'.mo.imp (fun xs hl y => hq _ (by rw [List.length_cons, List.length_cons, hl]) y) he z) he q⟩⟩
  have bk : ∀ a, H1 a = none → H a = none := fun a z => S1.none_of k1 z
  have nn : ∀ a, H a = none → ¬ C.inT a := fun a z t => S.dom a (S.tm t) z
  refine y _ M2 H2 (k1.trans k2) (g1.trans g2 k1 (fun a t => S.tm t)) S2 (.cons (Stp.slr (g2.stp S1 k2) g2.up (fun a n _ => nn a n) k2 p1) ?_ ?_)
  · have up : ∀ {vs ss}, SlRA C M2 H2 (fun a => H1 a = none) vs ss → SlRA C M2 H2 (fun a => H a = none) vs ss := by
      intro vs ss hh
      induction hh with
      | nil => exact .nil
      | cons a b c ih =>
        refine .cons ?_ ih c
        cases a with
        | val p => exact .val p
        | own m n p => exact .own m (bk _ n) p
    exact up p2
  · intro a d j e ev es' ej vj
    subst ev es'
    cases p1 with
    | own m n p =>
      have there : H1 a ≠ none := by
        cases p with
        | lst hh _ => rw [hh]; simp
        | dctK hh _ => rw [hh]; simp
        | dctN hh _ _ => rw [hh]; simp
      have new : ∀ {vs ss}, SlRA C M2 H2 (fun a => H1 a = none) vs ss → ∀ (j : Nat), ss[j]? = some (.own e) → vs[j]? = some (.ref a) → H1 a = none := by
        intro vs ss hh
        induction hh with
        | nil => intro j z; simp at z
        | cons a b c ih =>
          intro j z1 z2
          cases j with
          | zero =>
            simp at z1 z2
            subst z1 z2
            cases a with
            | own m n p => exact n
          | succ j => exact ih j (by simpa using z1) (by simpa using z2)
      exact there (new p2 j ej vj)
end
section
variable {C : Ct} {M : Addr → Prop} {r : Env} {σ : L2.St} {H H' : Hp}
theorem Sim.setNew {M' : Addr → Prop} {N : Addr → Prop} {v : V} {s : Sl} (i : Nat) (S' : Sim C M' r σ H') (p : SlR C M' H' N v s) (h : ∀ a d, v = .ref a → s = .own d → C.H0 a = none ∧ ¬ C.M0 a ∧ ∀ (j : Nat) (e : D), r[j]? = some (.own e) → σ[j]? ≠ some (some (.ref a))) :
    Sim C M' (r.set i s) (σ.set i (some v)) H' := by
  cases p with
  | val p => exact S'.set p
  | own m n p =>
    obtain ⟨h0, m0, nw⟩ := h _ _ rfl rfl
    exact S'.setOwn m h0 m0 p fun j e e1 e2 => absurd e2 (nw j e e1)
/-- two, three slots at once -/
theorem Sim.set2 {M' : Addr → Prop} {v w : V} {s s' : Sl} (i j : Nat) (S : Sim C M r σ H) (S' : Sim C M' r σ H') (p : SlRA C M' H' (fun a => H a = none) [v, w] [s, s']) : Sim C M' ((r.set i s).set j s') ((σ.set i (some v)).set j (some w)) H' := by
  cases p with
  | cons p1 q d1 =>
    cases q with
    | cons p2 q d2 =>
      have S1 := S.setSl (i := i) S' p1
      refine S1.setNew j p2 fun a d ev es => ?_
      subst ev es
      have n : H a = none := by cases p2 with | own _ n _ => exact n
      obtain ⟨h0, m0⟩ := S.newH0 n
      refine ⟨h0, m0, fun l e e1 e2 => ?_⟩
      by_cases hl : i = l
      · subst hl
        by_cases hi : i < r.length
        · rw [List.getElem?_set_self hi] at e1
          rw [List.getElem?_set_self (by rw [S.len]; exact hi)] at e2
          cases e1; cases e2
          exact d1 a _ 0 d rfl rfl rfl rfl
        · rw [List.getElem?_eq_none (by rw [List.length_set]; omega)] at e1; cases e1
      · rw [List.getElem?_set_ne hl] at e1 e2
        exact S.old n e1 e2
theorem Sim.set3 {M' : Addr → Prop} {v w z : V} {s s' s'' : Sl} (i j l : Nat) (hij : i ≠ j) (S : Sim C M r σ H) (S' : Sim C M' r σ H') (p : SlRA C M' H' (fun a => H a = none) [v, w, z] [s, s', s'']) :
    Sim C M' (((r.set i s).set j s').set l s'') (((σ.set i (some v)).set j (some w)).set l (some z)) H' := by
  cases p with
  | cons p1 q d1 =>
    cases q with
    | cons p2 q d2 =>
      cases q with
      | cons p3 q d3 =>
        have S1 := S.set2 i j S' (.cons p1 (.cons p2 .nil (fun a d j e _ _ z => by simp at z)) fun a d jj e e1 e2 e3 e4 => by
          cases jj with
          | zero => exact d1 a d 0 e e1 e2 (by simpa using e3) (by simpa using e4)
          | succ n => simp at e3)
        refine S1.setNew l p3 fun a d ev es => ?_
        subst ev es
        have n : H a = none := by cases p3 with | own _ n _ => exact n
        obtain ⟨h0, m0⟩ := S.newH0 n
        refine ⟨h0, m0, fun y e e1 e2 => ?_⟩
        by_cases hj : j = y
        · subst hj
          by_cases hi : j < r.length
          · rw [List.getElem?_set_self (by rw [List.length_set]; exact hi)] at e1
            rw [List.getElem?_set_self (by rw [List.length_set, S.len]; exact hi)] at e2
            cases e1; cases e2
            exact d2 a _ 0 d rfl rfl rfl rfl
          · rw [List.getElem?_eq_none (by rw [List.length_set, List.length_set]; omega)] at e1; cases e1
        · rw [List.getElem?_set_ne hj] at e1 e2
          by_cases hi' : i = y
          · subst hi'
            by_cases hi : i < r.length
            · rw [List.getElem?_set_self hi] at e1
              rw [List.getElem?_set_self (by rw [S.len]; exact hi)] at e2
              cases e1; cases e2
              exact d1 a _ 1 d rfl rfl rfl rfl
            · rw [List.getElem?_eq_none (by rw [List.length_set]; omega)] at e1; cases e1
          · rw [List.getElem?_set_ne hi'] at e1 e2
            exact S.old n e1 e2
theorem slra2 {M : Addr → Prop} {H : Hp} {N : Addr → Prop} {vs : List V} {s s' : Sl} (h : SlRA C M H N vs [s, s']) : ∃ v w, vs = [v, w] := by
  cases h with
  | cons _ h _ =>
    cases h with
    | cons _ h _ => cases h; exact ⟨_, _, rfl⟩
theorem slra3 {M : Addr → Prop} {H : Hp} {N : Addr → Prop} {vs : List V} {s s' s'' : Sl} (h : SlRA C M H N vs [s, s', s'']) : ∃ v w z, vs = [v, w, z] := by
  cases h with
  | cons _ h _ =>
    obtain ⟨v, w, e⟩ := slra2 h
    exact ⟨_, v, w, by rw [e]⟩
end
def sPar2 (i j : Nat) (u : TXA) : TSD := fun e r => u r (fun ss => match ss with
  | [s, s'] => e.nx ((r.set i s).set j s')
  | _ => False) (e.ex r)
def sPar3 (i j l : Nat) (u : TXA) : TSD := fun e r => u r (fun ss => match ss with
  | [s, s', s''] => e.nx (((r.set i s).set j s').set l s'')
  | _ => False) (e.ex r)
section
variable {X : Cx} {C : Ct} {W : XW} {a b c e : Expr} {u : TXA} {t : TP} {pos : Pos} {k : Nat}
theorem mono_par2 {i j n : Nat} (h : MonoXA n u) : MonoS (sPar2 i j u) := ⟨fun hh q => h.imp (fun ss _ z => by
  split at z
  · exact hh.nx _ z
  · exact z) (fun c z => hh.ex _ c z) q⟩
theorem mono_par3 {i j l n : Nat} (h : MonoXA n u) : MonoS (sPar3 i j l u) := ⟨fun hh q => h.imp (fun ss _ z => by
  split at z
  · exact hh.nx _ z
  · exact z) (fun c z => hh.ex _ c z) q⟩
/-- x, y = a, b, plain locals -/
theorem ds_par2 (i j : Nat) {x y : Str} {px py pt pt2 : Pos} {kt k2 : Nat} (G : Good X C W k) (ha : DAx X C W [a, b] u) (hi : X.N[i]? = some x := by rfl) (hj : X.N[j]? = some y := by rfl) (hij : i ≠ j := by decide)
    (hx : X.env.scope.names.lookup x = some .local := by rfl) (hy : X.env.scope.names.lookup y = some .local := by rfl) (hw : swappedStores [.Tuple [.Name x px, .Name y py] kt pt] (.Tuple [a, b] k2 pt2) X.env = pure (some [x, y]) := by rfl)
    (hs : swapsWithSole [.Tuple [.Name x px, .Name y py] kt pt] (.Tuple [a, b] k2 pt2) pos.line X.env = pure false := by rfl) : DS X C W (.Assign [.Tuple [.Name x px, .Name y py] kt pt] (.Tuple [a, b] k2 pt2) pos) (sPar2 i j u) := by
  refine ⟨(ps_par G.calm G.nd hi hj hij hx hy ha.pa hw hs).imp fun De σ H ⟨M, r, e, S, f, q⟩ => ⟨M, r, e.ex r, S, f.wish S, ha.mo.imp (fun ss _ z vs M' H' k' g S' p => ?_) (fun _ z => z) q⟩, mono_par2 ha.mo⟩
  split at z
  · obtain ⟨v, w, rfl⟩ := slra2 p
    exact ⟨v, w, rfl, f.nx M' _ _ H' (g.stp S k') (S.set2 i j S' p) z⟩
  · exact z.elim
theorem ds_par3 (i j l : Nat) {x y z : Str} {px py pz pt pt2 : Pos} {kt k2 : Nat} (G : Good X C W k) (ha : DAx X C W [a, b, c] u) (hi : X.N[i]? = some x := by rfl) (hj : X.N[j]? = some y := by rfl) (hl : X.N[l]? = some z := by rfl) (hij : i ≠ j := by decide) (hil : i ≠ l := by decide) (hjl : j ≠ l := by decide)
    (hx : X.env.scope.names.lookup x = some .local := by rfl) (hy : X.env.scope.names.lookup y = some .local := by rfl) (hz : X.env.scope.names.lookup z = some .local := by rfl)
    (hw : swappedStores [.Tuple [.Name x px, .Name y py, .Name z pz] kt pt] (.Tuple [a, b, c] k2 pt2) X.env = pure (some [x, y, z]) := by rfl)
    (hs : swapsWithSole [.Tuple [.Name x px, .Name y py, .Name z pz] kt pt] (.Tuple [a, b, c] k2 pt2) pos.line X.env = pure false := by rfl) : DS X C W (.Assign [.Tuple [.Name x px, .Name y py, .Name z pz] kt pt] (.Tuple [a, b, c] k2 pt2) pos) (sPar3 i j l u) := by
  refine ⟨(ps_par3 G.calm G.nd hi hj hl hij hil hjl hx hy hz ha.pa hw hs).imp fun De σ H ⟨M, r, e, S, f, q⟩ => ⟨M, r, e.ex r, S, f.wish S, ha.mo.imp (fun ss _ z vs M' H' k' g S' p => ?_) (fun _ z => z) q⟩, mono_par3 ha.mo⟩
  split at z
  · obtain ⟨v, w, y, rfl⟩ := slra3 p
    exact ⟨v, w, y, rfl, f.nx M' _ _ H' (g.stp S k') (S.set3 i j l hij S' p) z⟩
  · exact z.elim
/-- .. where one of the names is a cell -/
theorem ds_par2c (i j : Nat) {x y : Str} {px py pt pt2 : Pos} {kt k2 : Nat} (G : Good X C W k) (ha : DAx X C W [a, b] u) (hi : X.N[i]? = some x := by rfl) (hj : X.N[j]? = some y := by rfl)
    (hx : Loc X.env.scope x := by first | exact Or.inl rfl | exact Or.inr rfl) (hy : Loc X.env.scope y := by first | exact Or.inl rfl | exact Or.inr rfl) (hfx : X.fn x = true ∨ X.env.scope.names.lookup x = some .local := by first | exact .inl rfl | exact .inr rfl | assumption) (hfy : X.fn y = true ∨ X.env.scope.names.lookup y = some .local := by first | exact .inl rfl | exact .inr rfl | assumption)
    (hs : swapsWithSole [.Tuple [.Name x px, .Name y py] kt pt] (.Tuple [a, b] k2 pt2) pos.line X.env = pure false := by rfl) (hw : swappedStores [.Tuple [.Name x px, .Name y py] kt pt] (.Tuple [a, b] k2 pt2) X.env = pure none := by rfl) :
    DS X C W (.Assign [.Tuple [.Name x px, .Name y py] kt pt] (.Tuple [a, b] k2 pt2) pos) (sPar2 i j u) := by
  have F := G.fit
  refine ⟨(ps_asg (pe_tup ha.pa) (pg_tup G.calm (pgs_cons (pg_name G.nd hi hx hfx) (pgs_cons (pg_name G.nd hj hy hfy) pgs_nil))) hs hw).imp fun De σ H ⟨M, r, e, S, f, q⟩ => ⟨M, r, e.ex r, S, f.wish S, ha.mo.imp (fun ss _ z vs M' H' k' g S' p => ?_) (fun _ z => z) q⟩, mono_par2 ha.mo⟩
  split at z
  · obtain ⟨v, w, rfl⟩ := slra2 p
    refine ⟨le1000 (by show 2 ≤ 1000; decide), fun pp hp => ⟨pp, [v, w], rfl, SqT.of upd_same, rfl, v, [w], rfl, w, [], rfl, rfl, ?_⟩⟩
    have S2 := (S.set2 i j S' p).same (same_upd (o := .tup [v, w]) hp)
    exact f.nx M' _ _ _ ((g.stp S k').trans (Stp.grow (same_upd hp))) S2 z
  · exact z.elim
theorem ds_par3c (i j l : Nat) {x y z : Str} {px py pz pt pt2 : Pos} {kt k2 : Nat} (G : Good X C W k) (ha : DAx X C W [a, b, c] u) (hi : X.N[i]? = some x := by rfl) (hj : X.N[j]? = some y := by rfl) (hl : X.N[l]? = some z := by rfl) (hij : i ≠ j := by decide)
    (hx : Loc X.env.scope x := by first | exact Or.inl rfl | exact Or.inr rfl) (hy : Loc X.env.scope y := by first | exact Or.inl rfl | exact Or.inr rfl) (hz : Loc X.env.scope z := by first | exact Or.inl rfl | exact Or.inr rfl)
    (hfx : X.fn x = true ∨ X.env.scope.names.lookup x = some .local := by first | exact .inl rfl | exact .inr rfl | assumption) (hfy : X.fn y = true ∨ X.env.scope.names.lookup y = some .local := by first | exact .inl rfl | exact .inr rfl | assumption) (hfz : X.fn z = true ∨ X.env.scope.names.lookup z = some .local := by first | exact .inl rfl | exact .inr rfl | assumption)
    (hs : swapsWithSole [.Tuple [.Name x px, .Name y py, .Name z pz] kt pt] (.Tuple [a, b, c] k2 pt2) pos.line X.env = pure false := by rfl) (hw : swappedStores [.Tuple [.Name x px, .Name y py, .Name z pz] kt pt] (.Tuple [a, b, c] k2 pt2) X.env = pure none := by rfl) :
    DS X C W (.Assign [.Tuple [.Name x px, .Name y py, .Name z pz] kt pt] (.Tuple [a, b, c] k2 pt2) pos) (sPar3 i j l u) := by
  refine ⟨(ps_asg (pe_tup ha.pa) (pg_tup G.calm (pgs_cons (pg_name G.nd hi hx hfx) (pgs_cons (pg_name G.nd hj hy hfy) (pgs_cons (pg_name G.nd hl hz hfz) pgs_nil)))) hs hw).imp fun De σ H ⟨M, r, e, S, f, q⟩ => ⟨M, r, e.ex r, S, f.wish S, ha.mo.imp (fun ss _ z vs M' H' k' g S' p => ?_) (fun _ z => z) q⟩, mono_par3 ha.mo⟩
  split at z
  · obtain ⟨v, w, y, rfl⟩ := slra3 p
    refine ⟨le1000 (by show 3 ≤ 1000; decide), fun pp hp => ⟨pp, [v, w, y], rfl, SqT.of upd_same, rfl, v, [w, y], rfl, w, [y], rfl, y, [], rfl, rfl, ?_⟩⟩
    have S2 := (S.set3 i j l hij S' p).same (same_upd (o := .tup [v, w, y]) hp)
    exact f.nx M' _ _ _ ((g.stp S k').trans (Stp.grow (same_upd hp))) S2 z
  · exact z.elim
/-- x += e: ints; a list of one's own -/
def sAug (i : Nat) (t : TP) : TSD := fun e r => match slot r i with
  | .val (.int a) => t r (fun d => match d with
    | .int b => e.nx (r.set i (.val (.int (a + b))))
    | _ => False) (e.ex r)
  | .own (.list ds) => t r (fun d => match d with
    | .list es => ds.length + es.length ≤ sizeLine ∧ e.nx (r.set i (.own (.list (ds ++ es))))
    | _ => False) (e.ex r)
  | _ => False
theorem set_self {α : Type} : ∀ {l : List α} {i : Nat} {x : α}, l[i]? = some x → l.set i x = l
  | [], _, _, h => by simp at h
  | y :: r, 0, x, h => by simp at h; subst h; rfl
  | y :: r, i + 1, x, h => by
    show y :: r.set i x = y :: r
    rw [set_self (by simpa using h)]
theorem ds_aug (i : Nat) {x : Str} {pos' : Pos} (G : Good X C W k) (he : DE X C W e t) (hi : X.N[i]? = some x := by rfl) (hx : Loc X.env.scope x := by first | exact Or.inl rfl | exact Or.inr rfl)
    (hf : X.fn x = true ∨ X.env.scope.names.lookup x = some .local := by first | exact .inl rfl | exact .inr rfl | assumption) : DS X C W (.AugAssign (.Name x pos') .Add e pos) (sAug i t) := by
  have ho : PIp X .Add (fun x y H Q => ipI (fun i j => i + j) x y H Q ∨ rExt2 x y H Q) := fun pins s σ H x y v u Q I r1 r2 h => by
    rcases h with h | h
    · exact ip_add pins s σ H x y v u Q I r1 r2 h
    · exact iop_ext pins s σ H x y v u Q I r1 r2 h
  refine ⟨(ps_aug G.nd hi hx he.pe ho hf).imp fun De σ H ⟨M, r, e, S, f, q⟩ => ?_, ⟨fun {e e' r} h q => ?_⟩⟩
  · unfold sAug at q
    split at q
    · rename_i a hsl
      obtain ⟨v, h1, h2⟩ := S.val i _ (slot_get hsl (by simp))
      cases h2
      refine ⟨_, h1, M, r, e.ex r, S, f.wish S, he.mo.imp (fun d z v H1 k1 S1 p1 => ?_) (fun _ z => z) q⟩
      cases d with
      | int b => exact .inl ⟨a, b, rfl, p1.int, f.nx M _ _ H1 (S.stp k1) (S1.set (.int _)) z⟩
      | _ => exact z.elim
    · rename_i ds hsl
      have hr := slot_get hsl (by simp)
      obtain ⟨a, e1, m, h0, m0, tp⟩ := S.own i _ hr
      cases tp with
      | @lst xs _ ea pa =>
        refine ⟨_, e1, M, r, e.ex r, S, f.wish S, he.mo.imp (fun d z v H1 k1 S1 p1 => ?_) (fun _ z => z) q⟩
        cases d with
        | list es =>
          obtain ⟨b, ys, rfl, eb, pb⟩ := p1.lst
          have nt : ¬ C.inT a := fun t => m0 (S.inm a t)
          have ea1 : H1 a = some (.lst xs) := k1 a _ nt ea
          refine .inr ⟨a, b, xs, ys, rfl, rfl, ea1, eb, by rw [HC.RpA.length pa, HC.RpA.length pb]; exact z.1, ?_⟩
          obtain ⟨s2, S2⟩ := S1.mut (o := .lst (xs ++ ys)) (d' := .list (ds ++ es)) hr e1 fun s2 => .lst upd_same (((HC.RpA.step (S.stp k1) pa).append pb).step s2)
          rw [set_self e1]
          exact f.nx M _ σ _ ((S.stp k1).trans s2) S2 z.2
        | _ => exact z.elim
    · exact q.elim
  · unfold sAug at q ⊢
    split at q
    · refine he.mo.imp (fun d z => ?_) (fun c z => h.ex _ c z) q
      cases d with
      | int b => exact h.nx _ z
      | _ => exact z
    · refine he.mo.imp (fun d z => ?_) (fun c z => h.ex _ c z) q
      cases d with
      | list b => exact ⟨z.1, h.nx _ z.2⟩
      | _ => exact z
    · exact q

/-! ### raise X('..') -/
def sRaise (c : Addr) : TSD := fun e r => e.ex r c
/-- a class of errors of the program's own, over ValueError -/
structure XCls (K : PySem.W.Frag) (mg : Str → Option Value) (x : Str) (c : Addr) : Prop where
  g : mg x = some (.ref c)
  k : PySem.W.keepIn K (.ref c) = true
  e : PySem.W.excIn K c [.type "ValueError", .type "Exception", .type "BaseException", .type "object"] "ValueError.__new__" = true
  b : PySem.W.subIn K (.ref c) (.type "BaseException") = some true
  t : PySem.W.typeIn K (.ref c) = some (.type "type")
theorem ds_raise {x m : Str} {c : Addr} {j : Nat} {p1 p2 p3 : Pos} (G : Good X C W k) (tk : Takes X (fun cls d σ H => W σ cls d H)) (E : XCls X.K X.mg x c) (hg : Gl X x := by rfl) (hdb : (x == ("__debug__" : Str)) = false := by decide) :
    DS X C W (.Raise (some (.Call (.Name x p1) [.Constant (.str m) j p2] [] p3)) none pos) (sRaise c) :=
  ⟨(ps_raise G.calm tk (pmk_own PySem.F.excBase_ValueError E.e E.g E.k (raises_own E.b E.t) hg hdb)).imp fun De σ H ⟨M, r, e, S, f, q⟩ => f.ex M r σ H c Stp.refl S q, ⟨fun h q => h.ex _ _ q⟩⟩
end

/-! ### a def by its body -/
def startD (n : Nat) (ds : List D) : Env := ds.map Sl.val ++ List.replicate (n - ds.length) .un
def endD (Q : D → Prop) (E : Addr → Prop) : En := ⟨fun _ => Q .none, Q, fun _ => False, fun _ => False, fun _ => E⟩
section
variable {P : Program} {w : World} {K : PySem.W.Frag} {mg : Str → Option Value} {base : Heap}
theorem start_sim {C : Ct} {M : Addr → Prop} {H : Hp} {N : List Str} {vs : List V} {ds : List D} (p : C.RpA M H vs ds) (hb : Base C M H) (hm : ∀ a, C.M0 a → M a) (hd : Dom M H) (hi : ∀ a, C.inT a → C.M0 a) : Sim C M (startD N.length ds) (L2.start N vs) H := by
  have hl := HC.RpA.length p
  have hun : ∀ {i : Nat} {x : Sl}, (startD N.length ds)[i]? = some x → x ≠ .un → ∃ d, ds[i]? = some d ∧ x = .val d := fun {i x} h n => by
    unfold startD at h
    by_cases hi : i < ds.length
    · rw [List.getElem?_append_left (by simpa using hi), List.getElem?_map, List.getElem?_eq_getElem hi] at h
      cases h
      exact ⟨_, List.getElem?_eq_getElem hi, rfl⟩
    · rw [List.getElem?_append_right (by simpa using hi), List.getElem?_replicate] at h
      split at h
      · cases h; exact absurd rfl n
      · cases h
  refine ⟨?_, fun i d h => ?_, fun i d h => ?_, fun i j x y c h => ?_, fun i h => ?_, hb, hm, hd, hi⟩
  · unfold L2.start startD
    rw [List.length_append, List.length_append, List.length_map, List.length_map, List.length_replicate, List.length_replicate, hl]
  · obtain ⟨d', e1, e2⟩ := hun h (by simp)
    cases e2
    obtain ⟨v, h1, h2⟩ := HC.RpA.get p e1
    refine ⟨v, ?_, h2⟩
    unfold L2.start
    obtain ⟨hv, _⟩ := List.getElem?_eq_some_iff.mp h1
    rw [List.getElem?_append_left (by simpa using hv), List.getElem?_map, h1]
    rfl
  · obtain ⟨_, _, e2⟩ := hun h (by simp)
    cases e2
  · obtain ⟨_, _, e2⟩ := hun h (by simp)
    cases e2
  · rename_i x
    by_cases hx : x = .un
    · subst hx; exact trivial
    · obtain ⟨_, _, e2⟩ := hun h hx
      cases e2
      exact trivial
theorem same_of_base {H H' : Hp} {M M' : Addr → Prop} (h : Base ⟨K, P, w, Option.none, M, H⟩ M' H') : Same H H' := fun a o e => h.keep a o (fun t => t) e
/-- data in, data out -/
theorem fn_D {x qual : Str} {st : Stmt} {f : Addr} {fd : FuncData} {N ps : List Str} {k n : Nat} {sp : SpD} {t : TSD} (F : Fun K x qual st f fd) (S : FnScope N ps (defScope st)) (mo : MonoSp n sp) (hn : n = ps.length) (hm : mg x = some (.ref f)) (hbi : Binds K fd ps [])
    (hb : ∀ (cdv : Value) (A : Around) (outer : List PySem.Env) (s : Shared) (H : Hp) (E : XK) (C : Ct) (W : XW), Good (cxOf (L2.CX P w) P w K mg base N qual (defScope st) f cdv A outer s H E) C W k →
      Takes (cxOf (L2.CX P w) P w K mg base N qual (defScope st) f cdv A outer s H E) (fun cls d σ H => W σ cls d H) → C.NoOb → DSs (cxOf (L2.CX P w) P w K mg base N qual (defScope st) f cdv A outer s H E) C W (defBody st) t)
    (hs : ∀ ds Q E, sp ds Q E → t (endD Q E) (startD N.length ds)) : FnD P w K mg base (k + 1) x n sp := by
  refine ⟨⟨f, fd, ps, F.okX S (fun vs H Q E h => ?_) (fun cdv A outer s H vs Q E hr h => ?_), hm, F.kp, hbi⟩, mo⟩
  · obtain ⟨M, ds, _, p, q⟩ := h
    rw [HC.RpA.length p, mo.len q, hn]
  · obtain ⟨M, ds, dm, p, q⟩ := h
    have tk : Takes (cxOf (L2.CX P w) P w K mg base N qual (defScope st) f cdv A outer s H E) (fun cls d _ H => E cls d H) := takes_of rfl rfl rfl rfl
    refine ⟨_, (hb cdv A outer s H E ⟨K, P, w, Option.none, M, H⟩ (fun _ cls d H => E cls d H) ⟨⟨rfl, rfl, rfl⟩, rfl, hr, fun σ => passAt tk σ, passes_of rfl, S.nd⟩ tk (fun _ z => by cases z)).ps, M, startD N.length ds, endD _ _, ?_, ?_, hs ds _ _ q⟩
    · exact start_sim p ⟨Ct.Ex.refl, trivial⟩ (fun _ h => h) dm (fun _ h => h.elim)
    · exact ⟨fun M' r' σ' H' _ S' z => z .non H' (same_of_base S'.base) .non, fun M' r' σ' H' v d S' p z => z v H' (same_of_base S'.base) (HC.Rp.less S'.m0 p), fun _ _ _ _ _ _ z => z.elim, fun _ _ _ _ _ _ z => z.elim, fun M' r' σ' H' c _ S' z => z H' (same_of_base S'.base)⟩
/-- .. the draws first -/
def startT (n : Nat) (ds : List D) : Env := Sl.tok :: startD (n - 1) ds
theorem startT_sim {C : Ct} {M : Addr → Prop} {H : Hp} {N : List Str} {g nn : Addr} {vs : List V} {ds : List D} (hT : C.T = some (.dr g nn)) (hN : N.length = N.length - 1 + 1) (p : C.RpA M H vs ds) (hb : Base C M H) (hm : ∀ a, C.M0 a → M a) (hd : Dom M H) (hi : ∀ a, C.inT a → C.M0 a) : Sim C M (startT N.length ds) (L2.start N (.ref g :: vs)) H := by
  have S0 : Sim C M (startD (N.tail).length ds) (L2.start N.tail vs) H := start_sim p hb hm hd hi
  have e1 : N.tail.length = N.length - 1 := List.length_tail
  have e2 : L2.start N (.ref g :: vs) = some (.ref g) :: L2.start N.tail vs := by
    unfold L2.start
    rw [e1, List.map_cons, List.cons_append, List.length_cons]
    have : N.length - (vs.length + 1) = N.length - 1 - vs.length := by omega
    rw [this]
  rw [e1] at S0
  unfold startT
  rw [e2]
  refine ⟨by rw [List.length_cons, List.length_cons, S0.len], fun i d h => ?_, fun i d h => ?_, fun i j x y c h1 h2 h3 h4 => ?_, fun i h => ?_, hb, hm, hd, hi⟩
  · cases i with
    | zero => simp at h
    | succ i => simpa using S0.val i d (by simpa using h)
  · cases i with
    | zero => simp at h
    | succ i => simpa using S0.own i d (by simpa using h)
  · cases i with
    | zero => simp at h1
    | succ i =>
      cases j with
      | zero => simp at h2
      | succ j => rw [S0.sep i j x y c (by simpa using h1) (by simpa using h2) (by simpa using h3) (by simpa using h4)]
  · cases i with
    | zero =>
      have h' : some Sl.tok = some _ := h
      cases h'
      exact ⟨g, nn, hT, rfl⟩
    | succ i => simpa using S0.tk i (by simpa using h)
theorem fn_T {x qual : Str} {st : Stmt} {f : Addr} {fd : FuncData} {N ps : List Str} {k n : Nat} {sp : SpD} {t : TSD} (F : Fun K x qual st f fd) (S : FnScope N ps (defScope st)) (mo : MonoSp n sp) (hn : ps.length = n + 1) (hN : N.length = N.length - 1 + 1) (hm : mg x = some (.ref f)) (hbi : Binds K fd ps [])
    (hb : ∀ (cdv : Value) (A : Around) (outer : List PySem.Env) (s : Shared) (H : Hp) (E : XK) (C : Ct) (W : XW), Good (cxOf (L2.CX P w) P w K mg base N qual (defScope st) f cdv A outer s H E) C W k →
      Takes (cxOf (L2.CX P w) P w K mg base N qual (defScope st) f cdv A outer s H E) (fun cls d σ H => W σ cls d H) → C.NoOb → DSs (cxOf (L2.CX P w) P w K mg base N qual (defScope st) f cdv A outer s H E) C W (defBody st) t)
    (hs : ∀ ds Q E, sp ds Q E → t (endD Q E) (startT N.length ds)) : FnT P w K mg base (k + 1) x n sp := by
  refine ⟨⟨f, fd, ps, F.okX S (fun vs H Q E h => ?_) (fun cdv A outer s H vs Q E hr h => ?_), hm, F.kp, hbi⟩, mo⟩
  · obtain ⟨M, g, nn, us, ds, rfl, _, _, _, _, p, q⟩ := h
    rw [List.length_cons, HC.RpA.length p, mo.len q, hn]
  · obtain ⟨M, g, nn, us, ds, rfl, dm, mg', mn, tok, p, q⟩ := h
    have tk : Takes (cxOf (L2.CX P w) P w K mg base N qual (defScope st) f cdv A outer s H E) (fun cls d _ H => E cls d H) := takes_of rfl rfl rfl rfl
    refine ⟨_, (hb cdv A outer s H E ⟨K, P, w, some (.dr g nn), M, H⟩ (fun _ cls d H => E cls d H) ⟨⟨rfl, rfl, rfl⟩, rfl, hr, fun σ => passAt tk σ, passes_of rfl, S.nd⟩ tk (fun _ z => by cases z)).ps, M, startT N.length ds, endD _ _, ?_, ?_, hs ds _ _ q⟩
    · exact startT_sim rfl hN p ⟨Ct.Ex.refl, tok⟩ (fun _ h => h) dm (fun a h => h.elim (fun e => e ▸ mg') fun e => e ▸ mn)
    · have kp : ∀ {H' : Hp} {M' : Addr → Prop}, Base ⟨K, P, w, some (.dr g nn), M, H⟩ M' H' → (∀ a o, a ≠ g → a ≠ nn → H a = some o → H' a = some o) := fun {H' M'} b a o n1 n2 e => b.keep a o (fun t => t.elim n1 n2) e
      exact ⟨fun M' r' σ' H' _ S' z => z .non H' (kp S'.base) S'.base.tok .non, fun M' r' σ' H' v d S' p z => z v H' (kp S'.base) S'.base.tok (HC.Rp.less S'.m0 p), fun _ _ _ _ _ _ z => z.elim, fun _ _ _ _ _ _ z => z.elim, fun M' r' σ' H' c _ S' z => z H' (kp S'.base) S'.base.tok⟩
end
end HC
/-! HC10: chains of comparisons; a written dict of texts to ints; module constants; a law's body behind its draws. -/
namespace HC
open PySem PySem.Spec PyProof.Rows L2

section
variable {X : Cx} {C : Ct} {W : XW} {a b c : Expr} {ta tb tc : TP} {pos : Pos} {k : Nat}
theorem dv_chain {op op' : CmpOp} {f g : B2} (ho : Op2 X C (compareOp op) f) (ho' : Op2 X C (compareOp op') g) (ha : DE X C W a ta) (hb : DE X C W b tb) (hc : DE X C W c tc) (hm : lastMarks [op, op'] [b, c] = false := by with_unfolding_all rfl) : DV X C W (.Compare a [op, op'] [b, c] pos) (wChain f g ta tb tc) :=
  ⟨(pe_chain ho.ok ho'.ok ha.pe hb.pe hc.pe hm).imp fun σ H Q h => run_chain ha hb hc ho.mo ho'.mo h, mono_chain ho.mo ho'.mo ha.mo hb.mo hc.mo⟩
theorem dt_chain {op op' : CmpOp} {f g : B2} (ho : Op2 X C (compareOp op) f) (ho' : Op2 X C (compareOp op') g) (ha : DE X C W a ta) (hb : DE X C W b tb) (hc : DE X C W c tc) (hm : lastMarks [op, op'] [b, c] = false := by with_unfolding_all rfl) : DT X C W (.Compare a [op, op'] [b, c] pos) (bTest (wChain f g ta tb tc)) := by
  have mo := mono_chain ho.mo ho'.mo ha.mo hb.mo hc.mo
  refine ⟨(pt_chain ho.ok ho'.ok ha.pe hb.pe hc.pe hm).imp fun σ H Q ⟨M, r, E, S, hW, q⟩ => ?_, mono_test mo⟩
  show tChain (rD2 C f) (rD2 C g) (lP C W ta) (lP C W tb) (lP C W tc) σ H fun x H' => ∃ k, x = .bl k ∧ Q k H'
  refine run_chain ha hb hc ho.mo ho'.mo ⟨M, r, E, S, hW, mo.imp (fun x z v H1 k S1 p => ?_) (fun _ z => z) q⟩
  cases x with
  | bool k' => exact ⟨k', (Rp.q p).bl, z H1 k S1⟩
  | _ => exact z.elim
end

/-! ### a written dict of texts to ints -/
inductive Ent : List DictEntry → List (Str × Int) → Prop
  | nil : Ent [] []
  | cons {e : DictEntry} {r : List DictEntry} {x : Str} {i : Int} {l : List (Str × Int)} {t u : Tok} : e.key = .str x t → e.val = .int i u → Ent r l → Ent (e :: r) ((x, i) :: l)
def tabAt (l : List (Str × Int)) (z : Str) : Option Int := match l with
  | [] => none
  | (x, i) :: r => if x = z then some i else tabAt r z
structure KTab (K : PySem.W.Frag) (w : World) (d : Addr) (l : List (Str × Int)) : Prop where
  ex : ∃ es n, KDict K w d es n ∧ Ent es.toList l
section
variable {K : PySem.W.Frag} {w : World} {d : Addr} {l : List (Str × Int)}
theorem ent_look {z : Str} : ∀ {es : List DictEntry} {l : List (Str × Int)}, Ent es l →
    (∀ i, tabAt l z = some i → ∃ e u, es.find? (·.key.isStr z) = some e ∧ e.val = .int i u) ∧ (tabAt l z = none → es.find? (·.key.isStr z) = none ∧ es.any (·.refKey) = false)
  | _, _, .nil => ⟨(fun i h => by unfold tabAt at h; cases h), fun _ => ⟨rfl, rfl⟩⟩
  | _, _, .cons (e := e) (r := r) (x := x) (i := i) (l := l) (t := t) (u := u) h1 h2 h3 => by
    have ih := ent_look (z := z) h3
    have hk : e.key.isStr z = decide (x = z) := by
      rw [h1, PySem.W.isStr_of]
      by_cases q : x = z
      · subst q; simp [Value.isStrOf]
      · simp [Value.isStrOf, q]
    have hr : e.refKey = false := by unfold DictEntry.refKey; rw [h1]
    by_cases q : x = z
    · refine ⟨fun j hj => ?_, fun hj => ?_⟩
      · unfold tabAt at hj
        rw [if_pos q] at hj
        cases hj
        exact ⟨e, u, by rw [List.find?_cons, hk, decide_eq_true q], h2⟩
      · unfold tabAt at hj
        rw [if_pos q] at hj
        cases hj
    · refine ⟨fun j hj => ?_, fun hj => ?_⟩
      · unfold tabAt at hj
        rw [if_neg q] at hj
        obtain ⟨e', u', a1, a2⟩ := ih.1 j hj
        exact ⟨e', u', by rw [List.find?_cons, hk, decide_eq_false q]; exact a1, a2⟩
      · unfold tabAt at hj
        rw [if_neg q] at hj
        obtain ⟨a1, a2⟩ := ih.2 hj
        exact ⟨by rw [List.find?_cons, hk, decide_eq_false q]; exact a1, by rw [List.any_cons, hr, a2]; rfl⟩
theorem KTab.ata (T : KTab K w d l) {z : Str} {i : Int} (h : tabAt l z = some i) : ∃ u, PySem.W.nsIn K d z = some (some (.int i u)) := by
  obtain ⟨es, n, D, en⟩ := T.ex
  obtain ⟨e, u, h1, h2⟩ := (ent_look (z := z) en).1 i h
  refine ⟨u, ?_⟩
  unfold PySem.W.nsIn
  rw [D.at_]
  dsimp only
  rw [h1]
  show some (some e.val) = _
  rw [h2]
theorem KTab.non (T : KTab K w d l) {z : Str} (h : tabAt l z = none) : PySem.W.nsIn K d z = some none := by
  obtain ⟨es, n, D, en⟩ := T.ex
  obtain ⟨h1, h2⟩ := (ent_look (z := z) en).2 h
  unfold PySem.W.nsIn
  rw [D.at_]
  dsimp only
  rw [h1, h2]
  rfl
variable {X : Cx} {C : Ct} {W : XW} {e : Expr} {t : TP} {pos p : Pos} {k : Nat} {x : Str}
def wTabIn (l : List (Str × Int)) (neg : Bool) (t : TP) : TP := fun r Q E => t r (fun v => match v with
  | .str z => Q (.bool (if neg then !(tabAt l z).isSome else (tabAt l z).isSome))
  | _ => False) E
def wTabAt (l : List (Str × Int)) (t : TP) : TP := fun r Q E => t r (fun v => match v with
  | .str z => ∃ i, tabAt l z = some i ∧ Q (.int i)
  | _ => False) E
theorem mono_tabIn {neg : Bool} (h : Mono t) : Mono (wTabIn l neg t) := ⟨fun hq he q => h.imp (fun v z => by
  cases v with
  | str z' => exact hq _ z
  | _ => exact z) he q⟩
theorem mono_tabAt (h : Mono t) : Mono (wTabAt l t) := ⟨fun hq he q => h.imp (fun v z => by
  cases v with
  | str z' => exact let ⟨i, a, b⟩ := z; ⟨i, a, hq _ b⟩
  | _ => exact z) he q⟩
theorem run_tabIn {neg : Bool} {op : CmpOp} (T : KTab X.K X.w d l) (he : DE X C W e t)
    (ho : ∀ {es n}, KDict X.K X.w d es n → OpR X (compareOp op) (fun x y H Q => ∃ (z : Str) (r : Option Value), x = .str z ∧ y = .ref d ∧ PySem.W.nsIn X.K d z = some r ∧ Q (.bl (if neg then !r.isSome else r.isSome)) H)) :
    OpR X (compareOp op) (fun x y H Q => ∃ z, x = .str z ∧ y = .ref d ∧ Q (.bl (if neg then !(tabAt l z).isSome else (tabAt l z).isSome)) H) := by
  obtain ⟨es, n, D, en⟩ := id T.ex
  refine (ho D).imp fun x y H Q ⟨z, e1, e2, q⟩ => ?_
  cases h : tabAt l z with
  | none =>
    rw [h] at q
    exact ⟨z, _, e1, e2, T.non h, q⟩
  | some i =>
    rw [h] at q
    obtain ⟨u, hu⟩ := T.ata h
    exact ⟨z, _, e1, e2, hu, q⟩
theorem dt_tabIn (T : KTab X.K X.w d l) (he : DE X C W e t) (hm : X.mg x = some (.ref d)) (hg : Gl X x := by rfl) (hd : (x == ("__debug__" : Str)) = false := by decide) : DT X C W (.Compare e [.In] [.Name x p] pos) (bTest (wTabIn l false t)) := by
  refine ⟨(pt_cmpR (run_tabIn (neg := false) T he fun D => op_in_kd D) he.pe (pe_glob (v := .ref d) hg hm rfl hd) rfl).imp fun σ H Q ⟨M, r, E, S, hW, q⟩ => ⟨M, r, E, S, hW, he.mo.imp (fun v z vv H1 k1 S1 p1 => ?_) (fun _ z => z) q⟩, mono_test (mono_tabIn he.mo)⟩
  cases v with
  | str z' => exact ⟨z', p1.str, rfl, _, rfl, z H1 k1 S1⟩
  | _ => exact z.elim
theorem dt_tabNotIn (T : KTab X.K X.w d l) (he : DE X C W e t) (hm : X.mg x = some (.ref d)) (hg : Gl X x := by rfl) (hd : (x == ("__debug__" : Str)) = false := by decide) : DT X C W (.Compare e [.NotIn] [.Name x p] pos) (bTest (wTabIn l true t)) := by
  refine ⟨(pt_cmpR (run_tabIn (neg := true) T he fun D => op_notIn_kd D) he.pe (pe_glob (v := .ref d) hg hm rfl hd) rfl).imp fun σ H Q ⟨M, r, E, S, hW, q⟩ => ⟨M, r, E, S, hW, he.mo.imp (fun v z vv H1 k1 S1 p1 => ?_) (fun _ z => z) q⟩, mono_test (mono_tabIn he.mo)⟩
  cases v with
  | str z' => exact ⟨z', p1.str, rfl, _, rfl, z H1 k1 S1⟩
  | _ => exact z.elim
theorem dv_tabAt {es : List Expr} (T : KTab X.K X.w d l) (he : DE X C W e t) (hm : X.mg x = some (.ref d)) (hg : Gl X x := by rfl) (hd : (x == ("__debug__" : Str)) = false := by decide) (hs : PlainIx e := by exact fun _ _ => rfl) : DV X C W (.Subscript (.Name x p) e pos) (wTabAt l t) := by
  obtain ⟨es', n, D, en⟩ := id T.ex
  have ix : IxR X (fun x y H Q => ∃ (z : Str) (i : Int), x = .ref d ∧ y = .str z ∧ tabAt l z = some i ∧ Q (.int i) H) := by
    intro value slice pins s σ H x y v u Q I rx ry ⟨z, i, e1, e2, h, q⟩ hs
    subst e1 e2
    cases rx
    obtain ⟨tt, rfl⟩ := ry
    obtain ⟨uu, hu⟩ := T.ata h
    exact tail_any (kd_type D I) PySem.F.slot_dict_getitem.lookup (wpAny_getItem_of (PySem.strKind_is X.prog X.w z tt) (PySem.W.mapOf_K (prog := X.prog) I.kIn D.at_ D.lit) (PySem.W.find_K D.at_ hu) ⟨.int i, H, I.tok _, ⟨_, rfl⟩, q⟩) hs
  refine ⟨(pe_ix ix (pe_glob (v := .ref d) hg hm rfl hd) he.pe hs).imp fun σ H Q ⟨M, r, E, S, hW, q⟩ => ⟨M, r, E, S, hW, he.mo.imp (fun v z vv H1 k1 S1 p1 => ?_) (fun _ z => z) q⟩, mono_tabAt he.mo⟩
  cases v with
  | str z' => exact let ⟨i, a, b⟩ := z; ⟨z', i, rfl, p1.str, a, b _ H1 k1 S1 (.int i)⟩
  | _ => exact z.elim
end

/-! ### module constants -/
section
variable {X : Cx} {C : Ct} {W : XW} {pos : Pos} {k : Nat} {x : Str}
theorem dv_globI {i : Int} (h : ∃ u, X.mg x = some u ∧ RelV (.int i) u) (hg : Gl X x := by rfl) (hd : (x == ("__debug__" : Str)) = false := by decide) : DV X C W (.Name x pos) (wC (.int i)) := by
  obtain ⟨u, h1, h2⟩ := h
  exact dv_glob (fun M H => .int i) hg h1 h2 hd
/-- a written tuple of ints and texts -/
def KFlat (K : PySem.W.Frag) (mg : Str → Option Value) (x : Str) (ds : List D) : Prop := ∃ a, mg x = some (.ref a) ∧ KTup K a (ds.map D.v) ∧ ds.all D.flat = true
theorem rpA_flat {K : PySem.W.Frag} {P : Program} {w : World} {M : Addr → Prop} {H : Hp} : ∀ {ds : List D}, ds.all D.flat = true → RpA K P w M H (ds.map D.v) ds
  | [], _ => .nil
  | d :: ds, h => by
    rw [List.all_cons, Bool.and_eq_true] at h
    refine .cons ?_ (rpA_flat h.2)
    cases d with
    | none => exact .non
    | bool b => exact .bl b
    | int i => exact .int i
    | str x => exact .str x
    | _ => exact absurd h.1 Bool.false_ne_true
theorem dv_globT {ds : List D} (G : Good X C W k) (h : KFlat X.K X.mg x ds) (hg : Gl X x := by rfl) (hd : (x == ("__debug__" : Str)) = false := by decide) : DV X C W (.Name x pos) (wC (.tuple ds)) := by
  obtain ⟨a, h1, h2, h3⟩ := h
  have fk := G.fit.k
  exact dv_glob (v := .ref a) (fun M H => .ktup (by rw [← fk]; exact h2) (rpA_flat h3)) hg h1 rfl hd
end

/-! ### a law: its first statement makes the draws -/
def spStart (K : PySem.W.Frag) : Sp := fun vs H Q _ => ∃ (a : Addr) (ns : List Int), vs = [.ref a] ∧ SqL K H a (ns.map V.int) ∧ ns.length ≤ 63 ∧ ∀ H' g n, Same H H' → H g = none → H n = none → DrawsOk H' g n → Q (.ref g) H'
def spLaw (K : PySem.W.Frag) : Sp := fun vs H Q _ => ∃ (a : Addr) (ns : List Int), vs = [.ref a] ∧ SqL K H a (ns.map V.int) ∧ ns.length ≤ 63 ∧ ∀ H', Q (.bl true) H'
def spDraw : SpD := fun ds Q _ => ∃ l : Int, ds = [.int l] ∧ 0 < l ∧ l < 1073741824 ∧ ∀ k, 0 ≤ k → k < l → Q (.int k)
theorem mo_draw : MonoSp 1 spDraw := ⟨fun hq _ ⟨l, e, a, b, h⟩ => ⟨l, e, a, b, fun k h1 h2 => hq _ (h k h1 h2)⟩, fun ⟨l, e, _⟩ => by rw [e]; rfl⟩
section
variable {P : Program} {w : World} {K : PySem.W.Frag} {mg : Str → Option Value} {base : Heap}
def endLaw : En := ⟨fun _ => False, fun d => d = .bool true, fun _ => False, fun _ => False, fun _ _ => False⟩
def startLaw (n : Nat) : Env := .un :: .tok :: List.replicate (n - 2) .un
/-- the rest of a body, its context chosen when it is come to -/
theorem pss_any {X : Cx} {W : XW} {rest : List Stmt} {t : TSD} (h : ∀ C, Fit X C → C.NoOb → DSs X C W rest t) : PSs X rest (fun De σ H => ∃ C, (Fit X C ∧ C.NoOb) ∧ lS C W t De σ H) := ⟨fun pins s σ H De I ⟨C, F, q⟩ => (h C F.1 F.2).ps.run pins s σ H De I q⟩
theorem pass_no {X : Cx} (σ : L2.St) : PassesAt (L2.CX X.prog X.w) X σ E0 := fun _ _ _ _ _ _ c => by
  obtain ⟨_, _, _, _, _, _, _, _, _, _, _, _, z⟩ := c
  exact z.elim
theorem fn_law {f : Addr} {fd : FuncData} {st : Stmt} {N : List Str} {k n : Nat} {t : TSD} (F : Fun K "law" "law" st f fd) (S : FnScope N ["script"] (defScope st)) (hn : N.length = n + 2)
    (hb : ∀ (cdv : Value) (A : Around) (outer : List PySem.Env) (s : Shared) (H : Hp) (E : XK), Room k (cxOf (L2.CX P w) P w K mg base N "law" (defScope st) f cdv A outer s H E).A → ∃ s1 rest, defBody st = s1 :: rest ∧
      PS (cxOf (L2.CX P w) P w K mg base N "law" (defScope st) f cdv A outer s H E) s1 (tAsg (tCallS (spStart K) (fun _ => E0) (tCons (tVar 0) tNil)) (gName 1)) ∧
      ∀ C W, Good (cxOf (L2.CX P w) P w K mg base N "law" (defScope st) f cdv A outer s H E) C W k → Takes (cxOf (L2.CX P w) P w K mg base N "law" (defScope st) f cdv A outer s H E) (fun cls d σ H => W σ cls d H) → C.NoOb → DSs (cxOf (L2.CX P w) P w K mg base N "law" (defScope st) f cdv A outer s H E) C W rest t)
    (hs : t endLaw (startLaw N.length)) : FnOk P w K mg base (L2.CX P w) (k + 1) f fd ["script"] (spLaw K) := by
  refine F.okX S (fun vs H Q E h => ?_) (fun cdv A outer s H vs Q E hr h => ?_)
  · obtain ⟨a, ns, rfl, _⟩ := h
    rfl
  · obtain ⟨a, ns, rfl, hS, hl, q⟩ := h
    have tk : Takes (cxOf (L2.CX P w) P w K mg base N "law" (defScope st) f cdv A outer s H E) (fun cls d _ H => E cls d H) := takes_of rfl rfl rfl rfl
    obtain ⟨s1, rest, e, p1, pr⟩ := hb cdv A outer s H E hr
    rw [e]
    refine ⟨_, pss_cons p1 (pss_any (W := fun _ cls d H => E cls d H) fun C FF nob => pr C _ ⟨FF, rfl, hr, fun σ => passAt tk σ, passes_of rfl, S.nd⟩ tk nob), ?_⟩
    have est : L2.start N [V.ref a] = some (.ref a) :: none :: List.replicate n none := by
      unfold L2.start
      rw [hn]
      rfl
    rw [est]
    refine ⟨.ref a, rfl, a, ns, rfl, hS, hl, fun H' g nn sm hg hnn dr => ?_⟩
    refine ⟨⟨K, P, w, some (.dr g nn), fun b => b = g ∨ b = nn, H'⟩, ⟨⟨rfl, rfl, rfl⟩, fun _ z => (by cases z)⟩, fun b => b = g ∨ b = nn, startLaw N.length, endLaw, ?_, ?_, hs⟩
    · obtain ⟨kk, xs, e1, e2, _⟩ := dr.ok
      unfold startLaw
      rw [hn]
      show Sim _ _ (.un :: .tok :: List.replicate n .un) (some (.ref a) :: some (.ref g) :: List.replicate n none) H'
      have cs : ∀ {i : Nat} {x : Sl}, (Sl.un :: Sl.tok :: List.replicate n Sl.un)[i]? = some x → x = .un ∨ (x = .tok ∧ i = 1) := fun {i x} h => by
        cases i with
        | zero => simp at h; exact .inl h.symm
        | succ i =>
          cases i with
          | zero => simp at h; exact .inr ⟨h.symm, rfl⟩
          | succ i =>
            simp only [List.getElem?_cons_succ, List.getElem?_replicate] at h
            split at h
            · cases h; exact .inl rfl
            · cases h
      refine ⟨by simp, fun i d h => ?_, fun i d h => ?_, fun i j x y c h => ?_, fun i h => ?_, ⟨Ct.Ex.refl, dr⟩, fun b h => h, fun b h z => ?_, fun b h => h⟩
      · rcases cs h with z | ⟨z, _⟩ <;> cases z
      · rcases cs h with z | ⟨z, _⟩ <;> cases z
      · rcases cs h with z | ⟨z, _⟩ <;> cases z
      · rcases cs h with z | ⟨z1, z⟩
        · cases z; exact trivial
        · cases z1; subst z; exact ⟨g, nn, rfl, rfl⟩
      · rcases h with rfl | rfl
        · rw [e1] at z; cases z
        · rw [e2] at z; cases z
    · refine ⟨fun _ _ _ _ _ _ z => z.elim, fun M' r' σ' H' v d S' p z => ?_, fun _ _ _ _ _ _ z => z.elim, fun _ _ _ _ _ _ z => z.elim, fun _ _ _ _ _ _ _ z => z.elim⟩
      have z : d = .bool true := z
      subst z
      have := (Rp.q p).bl
      subst this
      exact q H'
end
end HC
/-! HK1: dicts whose keys are tuples: look up, in, walk. -/
namespace HC
open PySem PySem.Spec PyProof.Rows L2
/-! ### pairs -/
def kvGet : List (NestedKey × D) → NestedKey → Option D
  | [], _ => Option.none
  | (x, d) :: r, k => if x = k then some d else kvGet r k
def kvPut (kvs : List (NestedKey × D)) (k : NestedKey) (v : D) : List (NestedKey × D) :=
  if (kvGet kvs k).isSome = true then kvs.map (fun p => if p.1 = k then (p.1, v) else p) else kvs ++ [(k, v)]

section
variable {X : Cx} {M : Addr → Prop} {H : Hp} {pins : List (Addr × Obj)} {σ : L2.St} {s : Shared}
mutual
/-- a key's value on the heap -/
theorem key_heap (I : Inv X pins σ H s) : ∀ (k : NestedKey) (v : V) (u : Value), Rp X.K X.prog X.w M H v (keyD k) → RelV v u → NestedIs s.heap k u
  | .none, v, u, h, r => by
    cases h
    have e : u = Value.none := r
    subst e
    exact .none
  | .num i, v, u, h, r => by
    cases h
    obtain ⟨t, rfl⟩ := r
    exact .int i t
  | .text x, v, u, h, r => by
    cases h
    obtain ⟨t, rfl⟩ := r
    exact .text x t
  | .tup ks, v, u, h, r => by
    have main : ∀ (a : Addr) (xs : List V), SqT X.K H a xs → RpA X.K X.prog X.w M H xs (keysD ks) → NestedIs s.heap (.tup ks) (.ref a) := fun a xs hs hp => by
      obtain ⟨its, hv, ⟨o, ho, hc, n, hd⟩, _⟩ := I.tuple hs
      exact .tup ho hc hd (keys_heap I ks xs its hp hv)
    cases h with
    | tup m e p =>
      cases r
      exact main _ _ (SqT.of e) p
    | ktup e p =>
      cases r
      exact main _ _ (.inr e) p
theorem keys_heap (I : Inv X pins σ H s) : ∀ (ks : List NestedKey) (vs : List V) (us : List Value), RpA X.K X.prog X.w M H vs (keysD ks) → Vals vs us → NestedAll s.heap ks us
  | [], _, _, .nil, .nil => .nil
  | k :: ks, _, _, .cons h1 h2, .cons r1 r2 => .cons (key_heap I k _ _ h1 r1) (keys_heap I ks _ _ h2 r2)
end
theorem rpn_mem {K : PySem.W.Frag} {P : Program} {w : World} : ∀ {xs : List (NestedKey × Addr × Value)} {kvs : List (NestedKey × D)}, RpN K P w M H xs kvs → ∀ x ∈ xs, Rp K P w M H (.ref x.2.1) (keyD x.1)
  | _, _, .nil, x, h => by cases h
  | _, _, .cons a r b c, x, h => by
    rcases List.mem_cons.mp h with rfl | h
    · exact a
    · exact rpn_mem c x h
/-- the dict on the heap -/
theorem td_heap {a : Addr} {o : Obj} {xs : List (NestedKey × Addr × Value)} {kvs : List (NestedKey × D)} (I : Inv X pins σ H s) (e : H a = some (dnO a o)) (de : DEnt X.prog X.w a o xs) (r : RpN X.K X.prog X.w M H xs kvs) :
    s.heap.DictOfH (nestedKind X.prog X.w) a xs := by
  obtain ⟨h1, h2, h3, es, ep, h4, h5, h6, h7⟩ := de
  have ho : s.heap.get? a = some o := (I.hok a _ e).1
  exact ⟨o, es, ep, ho, h3, h4, h5, fun x hx => ⟨key_heap I x.1 _ _ (rpn_mem r x hx) rfl, h7 x hx⟩, h6⟩
/-- the same key on both sides -/
theorem rpn_get {K : PySem.W.Frag} {P : Program} {w : World} (k : NestedKey) : ∀ {xs : List (NestedKey × Addr × Value)} {kvs : List (NestedKey × D)}, RpN K P w M H xs kvs →
    (atKey xs k = none ∧ kvGet kvs k = none) ∨ ∃ p v d, atKey xs k = some p ∧ kvGet kvs k = some d ∧ RelV v p.2 ∧ Rp K P w M H v d
  | _, _, .nil => .inl ⟨rfl, rfl⟩
  | _, _, .cons (k := k') (a := a) (v := v) (u := u) (vs := vs) (d := d) (ds := ds) h1 h2 h3 h4 => by
    by_cases e : k' = k
    · refine .inr ⟨(a, u), v, d, ?_, ?_, h2, h3⟩
      · unfold atKey
        rw [List.find?_cons_of_pos (by simp [e])]
        rfl
      · unfold kvGet
        rw [if_pos e]
    · have e1 : atKey ((k', a, u) :: vs) k = atKey vs k := by
        unfold atKey
        rw [List.find?_cons_of_neg (by simp [e])]
      have e2 : kvGet ((k', d) :: ds) k = kvGet ds k := by
        rw [kvGet, if_neg e]
      rw [e1, e2]
      exact rpn_get k h4
theorem rpn_some {K : PySem.W.Frag} {P : Program} {w : World} {k : NestedKey} {xs : List (NestedKey × Addr × Value)} {kvs : List (NestedKey × D)} (r : RpN K P w M H xs kvs) : (atKey xs k).isSome = (kvGet kvs k).isSome := by
  rcases rpn_get k r with ⟨a, b⟩ | ⟨p, v, d, a, b, _⟩
  · rw [a, b]; rfl
  · rw [a, b]; rfl
theorem rpn_len {K : PySem.W.Frag} {P : Program} {w : World} : ∀ {xs : List (NestedKey × Addr × Value)} {kvs : List (NestedKey × D)}, RpN K P w M H xs kvs → xs.length = kvs.length
  | _, _, .nil => rfl
  | _, _, .cons _ _ _ h => congrArg Nat.succ (rpn_len h)
end

section
variable {C : Ct} {M : Addr → Prop} {H : Hp} {v : V}
/-- a dict that is looked at -/
theorem Ct.Rq.td {kvs : List (NestedKey × D)} (h : C.Rq M H v (.tdict kvs)) : ∃ a o xs, v = .ref a ∧ H a = some (dnO a o) ∧ DEnt C.P C.w a o xs ∧ RpN C.K C.P C.w M H xs kvs := by
  rcases h with h | ⟨a, e, _, h⟩
  · cases h with
    | dctN _ e d r => exact ⟨_, _, _, rfl, e, d, r⟩
  · cases h with
    | dctN q d r => exact ⟨a, _, _, e, q, d, r⟩
end

/-! ### k in d, k not in d -/
def fInT (neg : Bool) : B2
  | x, .tdict kvs, Q => ∃ ks, x = .tuple (keysD ks) ∧ (NestedKey.tup ks).depth ≤ 8 ∧ Q (.bool (if neg = true then !(kvGet kvs (.tup ks)).isSome else (kvGet kvs (.tup ks)).isSome))
  | _, _, _ => False
theorem mo_inT {neg : Bool} : Mo2 (fInT neg) := by
  refine ⟨fun {x y Q Q'} hq h => ?_⟩
  unfold fInT at h ⊢
  split at h
  · exact let ⟨ks, a, b, c⟩ := h; ⟨ks, a, b, hq _ c⟩
  · exact h
section
variable {X : Cx} {C : Ct}
theorem room8 (hu : X.A.units + 65 < cLine) : (nestedKind X.prog X.w).room X.A.in1 := by
  show X.A.units + 1 + 8 < cLine
  omega
theorem op_inT (hu : X.A.units + 65 < cLine) (F : Fit X C) : Op2 X C (compareOp .In) (fInT false) := by
  refine ⟨?_, mo_inT⟩
  refine fit_cases (X := X) (motive := fun C => OpR X (compareOp .In) (rD2 C (fInT false))) (fun T M0 H0 => ?_) C F
  intro pins s σ H x y v u Q I rx ry ⟨M, d1, d2, r1, r2, dm, h⟩
  cases d2 with
  | tdict kvs =>
    obtain ⟨ks, e1, dp, q⟩ := h
    subst e1
    obtain ⟨a, o, xs, rfl, ea, de, rn⟩ := r2.td
    obtain ⟨b, zs, rfl, _, _⟩ := r1.tup
    cases rx
    cases ry
    have hk : NestedIs s.heap (.tup ks) (.ref b) := key_heap I (.tup ks) _ _ r1.tupRp rfl
    refine wpAny_in_heap (knd := nestedKind X.prog X.w) (k := .tup ks) (room8 hu) ⟨hk, dp⟩ de.2.1 (td_heap I ea de rn) ⟨.bl _, H, I.tok _, rfl, ?_⟩
    rw [rpn_some rn]
    exact q _ _ Same.refl' (.bl _)
  | _ => exact h.elim
theorem op_notInT (hu : X.A.units + 65 < cLine) (F : Fit X C) : Op2 X C (compareOp .NotIn) (fInT true) := by
  refine ⟨?_, mo_inT⟩
  refine fit_cases (X := X) (motive := fun C => OpR X (compareOp .NotIn) (rD2 C (fInT true))) (fun T M0 H0 => ?_) C F
  intro pins s σ H x y v u Q I rx ry ⟨M, d1, d2, r1, r2, dm, h⟩
  cases d2 with
  | tdict kvs =>
    obtain ⟨ks, e1, dp, q⟩ := h
    subst e1
    obtain ⟨a, o, xs, rfl, ea, de, rn⟩ := r2.td
    obtain ⟨b, zs, rfl, _, _⟩ := r1.tup
    cases rx
    cases ry
    have hk : NestedIs s.heap (.tup ks) (.ref b) := key_heap I (.tup ks) _ _ r1.tupRp rfl
    refine notIn_keyed (knd := nestedKind X.prog X.w) (k := .tup ks) (room8 hu) ⟨hk, dp⟩ de.2.1 ⟨xs, td_heap I ea de rn, rfl⟩ ⟨.bl _, H, I.tok _, rfl, ?_⟩
    rw [valueAt_pairsH, Option.isSome_map, rpn_some rn]
    exact q _ _ Same.refl' (.bl _)
  | _ => exact h.elim
/-- .. lists, tuples, texts too -/
def fIn : B2 := fun x y Q => match y with
  | .tdict _ => fInT false x y Q
  | _ => fInS x y Q
def fNotIn : B2 := fun x y Q => match y with
  | .tdict _ => fInT true x y Q
  | _ => fNotInS x y Q
theorem mo_in : Mo2 fIn := by
  refine ⟨fun {x y Q Q'} hq h => ?_⟩
  unfold fIn at h ⊢
  split at h
  · exact mo_inT.imp hq h
  · exact mo_inS.imp hq h
theorem mo_notIn : Mo2 fNotIn := by
  refine ⟨fun {x y Q Q'} hq h => ?_⟩
  unfold fNotIn at h ⊢
  split at h
  · exact mo_inT.imp hq h
  · exact mo_notInS.imp hq h
theorem op_inD' (hu : X.A.units + 65 < cLine) (F : Fit X C) : Op2 X C (compareOp .In) fIn := by
  refine ⟨((op_inT hu F).ok.or (op_inS' hu F).ok).imp fun x y H Q ⟨M, d1, d2, r1, r2, dm, h⟩ => ?_, mo_in⟩
  unfold fIn at h
  split at h
  · exact .inl ⟨M, d1, _, r1, r2, dm, h⟩
  · exact .inr ⟨M, d1, _, r1, r2, dm, h⟩
theorem op_notInD' (hu : X.A.units + 65 < cLine) (F : Fit X C) : Op2 X C (compareOp .NotIn) fNotIn := by
  refine ⟨((op_notInT hu F).ok.or (op_notInS' hu F).ok).imp fun x y H Q ⟨M, d1, d2, r1, r2, dm, h⟩ => ?_, mo_notIn⟩
  unfold fNotIn at h
  split at h
  · exact .inl ⟨M, d1, _, r1, r2, dm, h⟩
  · exact .inr ⟨M, d1, _, r1, r2, dm, h⟩
end

/-! ### d[k] -/
def fIx : B2 := fun x y Q => match x with
  | .tdict kvs => ∃ ks d, y = .tuple (keysD ks) ∧ (NestedKey.tup ks).depth ≤ 8 ∧ kvGet kvs (.tup ks) = some d ∧ Q d
  | _ => fIxS x y Q
theorem mo_ix : Mo2 fIx := by
  refine ⟨fun {x y Q Q'} hq h => ?_⟩
  unfold fIx at h ⊢
  split at h
  · exact let ⟨ks, d, a, b, c, q⟩ := h; ⟨ks, d, a, b, c, hq _ q⟩
  · exact mo_ixS.imp hq h
section
variable {X : Cx} {C : Ct} {W : XW} {pos : Pos} {k : Nat}
theorem ix_D (hu : X.A.units + 65 < cLine) (F : Fit X C) : IxR X (rD2 C fIx) := by
  intro value slice pins s σ H x y v uu Q I rx ry ⟨M, d1, d2, r1, r2, dm, h⟩ hs
  unfold fIx at h
  split at h
  · rename_i kvs
    obtain ⟨K0, P0, w0, T0, M0, H0⟩ := C
    obtain ⟨z1, z2, z3⟩ := F
    cases z1; cases z2; cases z3
    obtain ⟨ks, d, e1, dp, eg, q⟩ := h
    subst e1
    obtain ⟨a, o, xs, rfl, ea, de, rn⟩ := r1.td
    obtain ⟨b, zs, rfl, _, _⟩ := r2.tup
    cases rx
    cases ry
    have hk : NestedIs s.heap (.tup ks) (.ref b) := key_heap I (.tup ks) _ _ r2.tupRp rfl
    rcases rpn_get (.tup ks) rn with ⟨_, z⟩ | ⟨p, v, d', hp, hd, rv, rp⟩
    · rw [eg] at z; cases z
    · rw [eg] at hd
      cases hd
      have hm := td_heap I ea de rn
      exact tail_any hm.typeIs PySem.F.slot_dict_getitem.lookup (wpAny_getItem_heap (knd := nestedKind X.prog X.w) (k := .tup ks) (room8 hu) ⟨hk, dp⟩ hm hp ⟨v, H, I.tok _, rv, q v H Same.refl' rp⟩) hs
  · exact ix_S F value slice pins s σ H x y v uu Q I rx ry ⟨M, _, d2, r1, r2, dm, h⟩ hs
theorem dv_ix {a b : Expr} {ta tb : TP} (G : Good X C W k) (ha : DE X C W a ta) (hb : DE X C W b tb) (hs : PlainIx b := by exact fun _ _ => rfl) : DV X C W (.Subscript a b pos) (wOp2 fIx ta tb) :=
  ⟨(pe_ix (ix_D G.hu65 G.fit) ha.pe hb.pe hs).imp fun σ H Q h => run_op2 ha hb h mo_ix, mono_op2 mo_ix ha.mo hb.mo⟩
end

/-! ### len(d) -/
def gLen : Bn := fun ds Q => match ds with
  | [.tdict kvs] => Q (.int kvs.length)
  | _ => gLenS ds Q
section
variable {X : Cx} {C : Ct}
theorem call_lenT (F : Fit X C) : CallR X (.builtin "len") (fun xs H Q => ∃ M kvs v, xs = [v] ∧ C.Rq M H v (.tdict kvs) ∧ Q (.int kvs.length) H) := by
  refine fit_cases (X := X) (motive := fun C => CallR X (.builtin "len") (fun xs H Q => ∃ M kvs v, xs = [v] ∧ C.Rq M H v (.tdict kvs) ∧ Q (.int kvs.length) H)) (fun T M0 H0 => ?_) C F
  intro pins s σ H xs us Q I r ⟨M, kvs, v, e, r1, q⟩
  subst e
  obtain ⟨u, rfl, ru⟩ := vals1 r
  obtain ⟨a, o, xs, rfl, ea, de, rn⟩ := r1.td
  cases ru
  have hl := rpn_len rn
  have hz := de.1
  refine call_len_dictH de.2.1 (td_heap I ea de rn) (by rw [sizeLine_eq] at hz; omega) ?_
  exact ⟨.int xs.length, H, I.tok _, ⟨_, rfl⟩, by rw [hl]; exact q⟩
theorem b_len (F : Fit X C) : Blt X C (.builtin "len") gLen := by
  refine ⟨((call_lenT F).or (b_lenS F).ok).imp fun xs H Q ⟨M, ds, r, dm, h⟩ => ?_, ⟨fun {ds Q Q'} hq h => ?_⟩⟩
  · unfold gLen at h
    split at h
    · obtain ⟨v, rfl, r1⟩ := rq1 r
      exact .inl ⟨M, _, v, rfl, r1, h _ _ Same.refl' (.int _)⟩
    · exact .inr ⟨M, ds, r, dm, h⟩
  · unfold gLen at h ⊢
    split at h
    · exact hq _ h
    · exact (b_lenS (X := X) F).mo.imp hq h
end
end HC
/-! HK2: dicts whose keys are tuples: stores, displays, walks. -/
namespace HC
open PySem PySem.Spec PyProof.Rows L2
/-! ### a store -/
section
variable {K : PySem.W.Frag} {P : Program} {w : World} {M : Addr → Prop} {H : Hp}
theorem rpn_map {k : NestedKey} {v : V} {u : Value} {d : D} (rv : RelV v u) (hv : Rp K P w M H v d) : ∀ {xs : List (NestedKey × Addr × Value)} {kvs : List (NestedKey × D)}, RpN K P w M H xs kvs →
    RpN K P w M H (xs.map (putAt k u)) (kvs.map fun p => if p.1 = k then (p.1, d) else p)
  | _, _, .nil => .nil
  | _, _, .cons (k := k') (a := a) (v := v') (u := u') (d := d') h1 h2 h3 h4 => by
    rw [List.map_cons, List.map_cons]
    unfold putAt
    by_cases e : k' = k
    · rw [if_pos e, if_pos e]
      exact .cons h1 rv hv (rpn_map rv hv h4)
    · rw [if_neg e, if_neg e]
      exact .cons h1 h2 h3 (rpn_map rv hv h4)
theorem rpn_app : ∀ {xs ys : List (NestedKey × Addr × Value)} {kvs kvs' : List (NestedKey × D)}, RpN K P w M H xs kvs → RpN K P w M H ys kvs' → RpN K P w M H (xs ++ ys) (kvs ++ kvs')
  | _, _, _, _, .nil, h => h
  | _, _, _, _, .cons h1 h2 h3 h4, h => .cons h1 h2 h3 (rpn_app h4 h)
theorem rpn_put {k : NestedKey} {b : Addr} {v : V} {u : Value} {d : D} {xs : List (NestedKey × Addr × Value)} {kvs : List (NestedKey × D)} (r : RpN K P w M H xs kvs) (hk : Rp K P w M H (.ref b) (keyD k)) (rv : RelV v u) (hv : Rp K P w M H v d) :
    RpN K P w M H (storedH xs k b u) (kvPut kvs k d) := by
  unfold storedH kvPut
  rw [rpn_some r]
  split
  · exact rpn_map rv hv r
  · exact rpn_app r (.cons hk rv hv .nil)
theorem storedH_len (xs : List (NestedKey × Addr × Value)) (k : NestedKey) (b : Addr) (u : Value) : (storedH xs k b u).length ≤ xs.length + 1 := by
  unfold storedH
  split
  · rw [List.length_map]; omega
  · rw [List.length_append]; exact Nat.le_refl _
theorem storedH_keys {xs : List (NestedKey × Addr × Value)} {k : NestedKey} {b : Addr} {u : Value} {p : NestedKey → Prop} (h : ∀ x ∈ xs, p x.1) (hk : p k) : ∀ x ∈ storedH xs k b u, p x.1 := by
  intro x hx
  unfold storedH at hx
  split at hx
  · obtain ⟨y, hy, rfl⟩ := List.mem_map.mp hx
    unfold putAt
    split
    · exact h y hy
    · exact h y hy
  · rcases List.mem_append.mp hx with hx | hx
    · exact h x hx
    · rw [List.mem_singleton.mp hx]; exact hk
end
section
variable {X : Cx}
/-- the dict at a, as the object says -/
theorem dent_of {a : Addr} {xs : List (NestedKey × Addr × Value)} {h : Heap} (hm : h.DictOfH (nestedKind X.prog X.w) a xs) (hz : xs.length ≤ sizeLine) (hl : (a == sysModules) = false) (hd : ∀ x ∈ xs, x.1.depth ≤ 8) :
    ∃ o, h.get? a = some o ∧ DEnt X.prog X.w a o xs := by
  obtain ⟨o, es, ep, h1, h2, h3, h4, h5, h6⟩ := hm
  exact ⟨o, h1, hz, hl, h2, es, ep, h3, h4, h6, hd⟩
theorem dn_objOk {P : Program} {w : World} {H : Hp} {h : Heap} {a : Addr} {o : Obj} (e : h.get? a = some o) : ObjOk P w H h a (dnO a o) := ⟨e, ⟨o, e⟩, fun h1 h2 p k => k _ p⟩
def rSetT (X : Cx) : V → V → V → Hp → (Hp → Prop) → Prop := fun o i v H Q => ∃ (M : Addr → Prop) (a b : Addr) (ob : Obj) (xs : List (NestedKey × Addr × Value)) (kvs : List (NestedKey × D)) (ks : List NestedKey), o = .ref a ∧ i = .ref b ∧ H a = some (dnO a ob) ∧ DEnt X.prog X.w a ob xs ∧
  RpN X.K X.prog X.w M H xs kvs ∧ Rp X.K X.prog X.w M H (.ref b) (.tuple (keysD ks)) ∧ (NestedKey.tup ks).depth ≤ 8 ∧ xs.length < sizeLine ∧ ∀ ob' u, DEnt X.prog X.w a ob' (storedH xs (.tup ks) b u) → RelV v u → Q (upd H a (dnO a ob'))
theorem set_td (hu : X.A.units + 65 < cLine) : PSet X (rSetT X) := by
  intro pins s σ H o i v ov iv u Q I ro ri rv ⟨M, a, b, ob, xs, kvs, ks, e1, e2, ea, de, rn, rk, dp, hz, q⟩
  subst e1 e2
  cases ro
  cases ri
  have hk : NestedIs s.heap (.tup ks) (.ref b) := key_heap I (.tup ks) _ _ rk rfl
  refine wpAny_setItem_heap (knd := nestedKind X.prog X.w) (k := .tup ks) (hsz := Nat.le_of_lt hz) (room8 hu) ⟨hk, dp⟩ (td_heap I ea de rn) fun h' hm' hs => ?_
  have hl := storedH_len xs (.tup ks) b u
  obtain ⟨ob', g1, g2⟩ := dent_of hm' (by omega) de.2.1 (storedH_keys (p := fun k => k.depth ≤ 8) de.2.2.2.choose_spec.choose_spec.2.2.2 dp)
  refine ⟨upd H a (dnO a ob'), ?_, q ob' u g2 rv⟩
  exact I.write (x := a) (e := a) (by rw [ea]; trivial) (.inl rfl) (fun c w hc q => (hs.2 c hc).trans q) ⟨_, g1⟩ (dn_objOk g1)
theorem PSet.or {r1 r2 : V → V → V → Hp → (Hp → Prop) → Prop} (h1 : PSet X r1) (h2 : PSet X r2) : PSet X (fun o i v H Q => r1 o i v H Q ∨ r2 o i v H Q) := fun pins s σ H o i v ov iv u Q I ro ri rv h =>
  h.elim (fun h => h1 pins s σ H o i v ov iv u Q I ro ri rv h) fun h => h2 pins s σ H o i v ov iv u Q I ro ri rv h
end

/-! ### xs[j] = e, d[k] = e -/
def sSet (i : Nat) (t tj : TP) : TSD := fun e r => match slot r i with
  | .own (.list ds) => t r (fun d => tj r (fun j => match j with
    | .int n => ∃ m, ixN ds.length n = some m ∧ e.nx (r.set i (.own (.list (ds.set m d))))
    | _ => False) (e.ex r)) (e.ex r)
  | .own (.tdict kvs) => t r (fun d => tj r (fun j => ∃ ks, j = .tuple (keysD ks) ∧ (NestedKey.tup ks).depth ≤ 8 ∧ kvs.length < sizeLine ∧ e.nx (r.set i (.own (.tdict (kvPut kvs (.tup ks) d))))) (e.ex r)) (e.ex r)
  | _ => False
section
variable {X : Cx} {C : Ct} {W : XW} {e : Expr} {pos : Pos} {k : Nat}
theorem ds_set (i : Nat) {x : Str} {ej : Expr} {t tj : TP} {p1 p2 : Pos} (G : Good X C W k) (he : DV X C W e t) (hj : DE X C W ej tj) (hN : X.N[i]? = some x := by rfl) (hv : Vis X.env.scope x := by first | exact Or.inl rfl | exact Or.inr (Or.inl rfl) | exact Or.inr (Or.inr rfl))
    (hd : (x == ("__debug__" : Str)) = false := by decide) (hcd : (x == ("__classdict__" : Str)) = false := by decide)
    (ha : ∀ v, assign (.Subscript (.Name x p1) ej p2) X.env v = (do
      let ov ← holding [v] (eval (.Name x p1) X.env)
      let iv ← holding [v, ov] (eval ej X.env)
      standAt p2
      holding [v, ov, iv] (setItem ov iv v)
      release [v, ov, iv] []) := by intro _; rfl)
    (hs : swapsWithSole [.Subscript (.Name x p1) ej p2] e pos.line X.env = pure false := by rfl) (hw : swappedStores [.Subscript (.Name x p1) ej p2] e X.env = pure none := by rfl)
    (h1 : (assignEach [.Subscript (.Name x p1) ej p2] X.env).map (·.2) = [assign (.Subscript (.Name x p1) ej p2) X.env] := by rfl) :
    DS X C W (.Assign [.Subscript (.Name x p1) ej p2] e pos) (sSet i t tj) := by
  refine ⟨(ps_asg he.pe (pg_sub (pe_var (i := i) hN hv hd hcd) hj.pe (PSet.or set_list (set_td G.hu65)) ha) hs hw h1).imp fun De σ H ⟨M, r, e, S, f, q⟩ => ?_, ⟨fun {e e' r} h q => ?_⟩⟩
  · unfold sSet at q
    split at q
    · rename_i ds hsl
      have hr := slot_get hsl (by simp)
      refine ⟨M, r, e.ex r, S, f.wish S, he.mo.imp (fun d z v H1 k1 S1 p1 => ?_) (fun _ z => z) q⟩
      obtain ⟨a, e1, m, h0, m0, tp⟩ := S1.own i _ hr
      refine ⟨.ref a, e1, M, r, e.ex r, S1, (f.wish S).mono k1, hj.mo.imp (fun j z vj H2 k2 S2 p2 => ?_) (fun _ z => z) z⟩
      cases tp with
      | @lst xs _ ea pa =>
        cases j with
        | int n =>
          obtain ⟨mm, hm, z⟩ := z
          have nt : ¬ C.inT a := fun t => m0 (S.inm a t)
          have ea2 : H2 a = some (.lst xs) := k2 a _ nt ea
          refine .inl ⟨a, xs, n, mm, rfl, p2.int, ea2, by rw [HC.RpA.length pa]; exact hm, ?_⟩
          obtain ⟨s3, S3⟩ := S2.mut (o := .lst (xs.set mm v)) (d' := .list (ds.set mm d)) hr e1 fun s3 => .lst upd_same (((HC.RpA.step (S1.stp k2) pa).set (HC.Rp.step (S1.stp k2) p1) mm).step s3)
          exact f.nx M _ σ _ (((S.stp k1).trans (S1.stp k2)).trans s3) S3 z
        | _ => exact z.elim
    · rename_i kvs hsl
      have hr := slot_get hsl (by simp)
      refine ⟨M, r, e.ex r, S, f.wish S, he.mo.imp (fun d z v H1 k1 S1 p1 => ?_) (fun _ z => z) q⟩
      obtain ⟨a, e1, m, h0, m0, tp⟩ := S1.own i _ hr
      refine ⟨.ref a, e1, M, r, e.ex r, S1, (f.wish S).mono k1, hj.mo.imp (fun j z vj H2 k2 S2 p2 => ?_) (fun _ z => z) z⟩
      cases tp with
      | @dctN ob xs _ ea de rn =>
        obtain ⟨ks, ej, dp, hz, z⟩ := z
        subst ej
        have nt : ¬ C.inT a := fun t => m0 (S.inm a t)
        have ea2 : H2 a = some (dnO a ob) := k2 a _ nt ea
        obtain ⟨b, _, rfl, _, _⟩ := p2.tup
        have rn2 := RpN.step (S1.stp k2) rn
        have rv2 := HC.Rp.step (S1.stp k2) p1
        have rk2 := p2.tupRp
        have FF := G.fit
        obtain ⟨K0, P0, w0, T0, M0, H0⟩ := C
        obtain ⟨z1, z2, z3⟩ := FF
        cases z1; cases z2; cases z3
        refine .inr ⟨M, a, b, ob, xs, kvs, ks, rfl, rfl, ea2, de, rn2, rk2, dp, by rw [rpn_len rn]; exact hz, fun ob' u de' ru => ?_⟩
        obtain ⟨s3, S3⟩ := S2.mut (o := dnO a ob') (d' := .tdict (kvPut kvs (.tup ks) d)) hr e1 fun s3 => .dctN upd_same de' (RpN.step s3 (rpn_put rn2 rk2 ru rv2))
        exact f.nx M _ σ _ (((S.stp k1).trans (S1.stp k2)).trans s3) S3 z
    · exact q.elim
  · unfold sSet at q ⊢
    split at q
    · refine he.mo.imp (fun d z => hj.mo.imp (fun j z => ?_) (fun c z => h.ex _ c z) z) (fun c z => h.ex _ c z) q
      split at z
      · obtain ⟨m, hm, z⟩ := z
        exact ⟨m, hm, h.nx _ z⟩
      · exact z
    · refine he.mo.imp (fun d z => hj.mo.imp (fun j z => ?_) (fun c z => h.ex _ c z) z) (fun c z => h.ex _ c z) q
      exact let ⟨ks, a, b, c, z⟩ := z; ⟨ks, a, b, c, h.nx _ z⟩
    · exact q
end

/-! ### {}: a dict whose keys will be tuples; {k: v} -/
section
variable {X : Cx} {C : Ct} {W : XW} {pos : Pos} {k : Nat} {ke ve : Expr} {tk tv : TP}
theorem pe_dnewN : PE X (.Dict [] [] pos) (fun _ H Q => ∀ p o, H p = none → DEnt X.prog X.w p o [] → Q (.ref p) (upd H p (dnO p o))) := ⟨fun pins s σ H Q I h => by
  have e : (s.heap.push { cls := .type "dict", data := .dict #[] }).get? s.heap.objs.size = some { cls := .type "dict", data := .dict #[] } := Heap.get?_push_size _ rfl
  refine wpAny_Dict_empty ⟨.ref s.heap.objs.size, _, I.laid (a := s.heap.objs.size) (o := dnO s.heap.objs.size { cls := .type "dict", data := .dict #[] }) (t' := s.toks) (fun _ _ q => Heap.get?_push_of_some _ q) (Nat.le_refl _) (dn_objOk e), rfl, h _ _ (I.hok.fresh (Nat.le_refl _)) ?_⟩
  exact ⟨Nat.zero_le _, beq_eq_false_iff_ne.mpr (Ne.symm (Nat.ne_of_lt I.big)), ⟨rfl, rfl, rfl⟩, #[], 0, rfl, rfl, List.nodup_nil, fun x hx => by cases hx⟩⟩
def wNewT : TP := fun _ Q _ => Q (.tdict [])
theorem dn_dictT (G : Good X C W k) : DN X C W (.Dict [] [] pos) wNewT := by
  have FF := G.fit
  obtain ⟨K0, P0, w0, T0, M0, H0⟩ := C
  obtain ⟨z1, z2, z3⟩ := FF
  cases z1; cases z2; cases z3
  refine ⟨pe_dnewN.imp fun σ H Q ⟨M, r, E, S, hW, q⟩ p o hp de => ?_, ⟨fun hq _ h => hq _ h⟩⟩
  have S2 := S.take (p := p) (H' := upd H p (dnO p o)) hp (same_upd hp) (by rw [upd_same]; simp)
  exact q p _ (Same.ex (same_upd hp)) hp S2 (.dctN upd_same de .nil)
end
end HC
/-! HK3: dicts whose keys are tuples: {k: v}, walks, get. -/
namespace HC
open PySem PySem.Spec PyProof.Rows L2
theorem tok_upd {C : Ct} {M : Addr → Prop} {H : Hp} {p : Addr} {o : HO} (t : C.tok M H) (m : M p) (n : ¬ C.inT p) : C.tok M (upd H p o) :=
  tok_step (fun a x e na => ⟨by rw [upd_ne (fun z : a = p => na (by rw [z]; exact m))]; exact e, na⟩) (fun a ha => upd_ne (fun z : a = p => n (z ▸ ha))) t
theorem Sim.takeEx {C : Ct} {M : Addr → Prop} {r : Env} {σ : L2.St} {H H' : Hp} (S : Sim C M r σ H) {p : Addr} (hp : H p = none) (k : C.Ex H H') (t : C.tok (fun a => M a ∨ a = p) H') (hs : H' p ≠ none) : Sim C (fun a => M a ∨ a = p) r σ H' := by
  have S1 := S.grow k (tok_step (Stp.less fun a m => .inl m) (fun _ _ => rfl) t)
  have st : Stp M H (fun a => M a ∨ a = p) H' := fun a o e m => ⟨k a o (fun t => m (S.tm t)) e, fun z => z.elim m fun q => by rw [q, hp] at e; cases e⟩
  refine ⟨S.len, fun i d e => ?_, fun i d e => ?_, S.sep, S.tk, ⟨S1.base.keep, t⟩, fun a m => .inl (S.m0 a m), fun a m => ?_, S.inm⟩
  · obtain ⟨v, h1, h2⟩ := S.val i d e
    exact ⟨v, h1, h2.step st⟩
  · obtain ⟨a, h1, h2, h3, h4, h5⟩ := S.own i d e
    exact ⟨a, h1, .inl h2, h3, h4, h5.step st fun o q => k a o (fun t => h4 (S.inm a t)) q⟩
  · rcases m with m | rfl
    · exact S1.dom a m
    · exact hs
section
variable {X : Cx} {C : Ct} {W : XW} {pos : Pos} {k : Nat} {ke ve : Expr} {tk tv : TP}
theorem pe_disp1N {tx ty : TE} (hu : X.A.units + 65 < cLine) (hk : PE X ke tx) (hv : PE X ve ty) : PE X (.Dict [some ke] [ve] pos) (fun σ H Q => ∀ p o, H p = none → DEnt X.prog X.w p o [] →
    tx σ (upd H p (dnO p o)) fun x H1 => ty σ H1 fun y H2 => ∃ (M : Addr → Prop) (ks : List NestedKey) (b : Addr), H2 p = some (dnO p o) ∧ x = .ref b ∧ Rp X.K X.prog X.w M H2 (.ref b) (.tuple (keysD ks)) ∧ (NestedKey.tup ks).depth ≤ 8 ∧
      ∀ o' u, DEnt X.prog X.w p o' [(.tup ks, b, u)] → RelV y u → Q (.ref p) (upd H2 p (dnO p o'))) := by
  refine ⟨fun pins s σ H Q I q => ?_⟩
  have e0 : (s.heap.push { cls := .type "dict", data := .dict #[] }).get? s.heap.objs.size = some { cls := .type "dict", data := .dict #[] } := Heap.get?_push_size _ rfl
  have hn := I.hok.fresh (Nat.le_refl s.heap.objs.size)
  have hlow : (s.heap.objs.size == sysModules) = false := beq_eq_false_iff_ne.mpr (Ne.symm (Nat.ne_of_lt I.big))
  have de0 : DEnt X.prog X.w s.heap.objs.size { cls := .type "dict", data := .dict #[] } [] := ⟨Nat.zero_le _, hlow, ⟨rfl, rfl, rfl⟩, #[], 0, rfl, rfl, List.nodup_nil, fun x hx => by cases hx⟩
  have I1 := I.laid (a := s.heap.objs.size) (o := dnO s.heap.objs.size { cls := .type "dict", data := .dict #[] }) (h' := s.heap.push { cls := .type "dict", data := .dict #[] }) (t' := s.toks) (fun _ _ q => Heap.get?_push_of_some _ q) (Nat.le_refl _) (dn_objOk e0)
  have hlen : (pairTrees [some ke] [ve] X.env pos).length ≤ 15 := by show 1 ≤ 15; decide
  rw [arm_eval_Dict, zip_pairTrees [some ke] [ve] X.env pos rfl rfl, dictDisplay_pairs _ (by intro z; cases z) (by show 1 < 17; decide)]
  refine wpAny_bind (wpAny_standAt (wpAny_bind (wpAny_subDictH (knd := nestedKind X.prog X.w) (by show X.A.units + 8 < cLine; omega) hlen ?_)))
  refine thn ((pps_cons hk hv pps_nil).run pins _ σ _ (fun ps H2 => match ps with
    | [(x, y)] => ∃ (M : Addr → Prop) (ks : List NestedKey) (b : Addr), H2 s.heap.objs.size = some (dnO s.heap.objs.size { cls := .type "dict", data := .dict #[] }) ∧ x = .ref b ∧ Rp X.K X.prog X.w M H2 (.ref b) (.tuple (keysD ks)) ∧ (NestedKey.tup ks).depth ≤ 8 ∧
      ∀ o' u, DEnt X.prog X.w s.heap.objs.size o' [(.tup ks, b, u)] → RelV y u → Q (.ref s.heap.objs.size) (upd H2 s.heap.objs.size (dnO s.heap.objs.size o'))
    | _ => False) I1 (q _ _ hn de0)) fun vs s2 ⟨ps, H2, I2, rel, q2⟩ => ?_
  cases rel with
  | nil => exact q2.elim
  | @cons p1 v1 ps' vs' h1 h2 =>
    cases h2 with
    | cons _ _ => exact q2.elim
    | nil =>
      obtain ⟨x, y⟩ := p1
      obtain ⟨u1, u2⟩ := v1
      obtain ⟨M, ks, b, ea, ex, rk, dp, q3⟩ := q2
      obtain ⟨rx, ry⟩ := h1
      subst ex
      cases rx
      have hkey : (nestedKind X.prog X.w).is s2.heap (.tup ks) b := ⟨key_heap I2 (.tup ks) _ _ rk rfl, dp⟩
      refine ⟨[(.tup ks, b, u2)], ⟨rfl, rfl, hkey, trivial⟩, td_heap (M := M) I2 ea de0 .nil, fun h' tk hm' hs => wpAny_pure ?_⟩
      have hm2 : h'.DictOfH (nestedKind X.prog X.w) s.heap.objs.size [(.tup ks, b, u2)] := hm'
      obtain ⟨o', g1, g2⟩ := dent_of hm2 (by show 1 ≤ sizeLine; decide) hlow (fun x hx => by rw [List.mem_singleton.mp hx]; exact dp)
      refine ⟨.ref s.heap.objs.size, upd H2 s.heap.objs.size (dnO s.heap.objs.size o'), ?_, rfl, q3 o' u2 g2 ry⟩
      exact I2.write (x := s.heap.objs.size) (e := s.heap.objs.size) (by rw [ea]; trivial) (.inl rfl) (fun c w hc q => (hs.2 c hc).trans q) ⟨_, g1⟩ (dn_objOk g1)
def wDisp1 (tk tv : TP) : TP := fun r Q E => tk r (fun x => tv r (fun y => ∃ ks, x = .tuple (keysD ks) ∧ (NestedKey.tup ks).depth ≤ 8 ∧ Q (.tdict [(.tup ks, y)])) E) E
theorem dn_disp1 (G : Good X C W k) (hk : DV X C W ke tk) (hv : DV X C W ve tv) : DN X C W (.Dict [some ke] [ve] pos) (wDisp1 tk tv) := by
  refine ⟨?_, ⟨fun hq he q => hk.mo.imp (fun x z => hv.mo.imp (fun y ⟨ks, a, b, c⟩ => ⟨ks, a, b, hq _ c⟩) he z) he q⟩⟩
  have FF := G.fit
  have hu := G.hu65
  obtain ⟨K0, P0, w0, T0, M0, H0⟩ := C
  obtain ⟨z1, z2, z3⟩ := FF
  cases z1; cases z2; cases z3
  refine (pe_disp1N hu hk.pe hv.pe).imp fun σ H Q ⟨M, r, E, S, hW, q⟩ p o hp de => ?_
  have S2 := S.take (p := p) (H' := upd H p (dnO p o)) hp (same_upd hp) (by rw [upd_same]; simp)
  have nt : ¬ (⟨X.K, X.prog, X.w, T0, M0, H0⟩ : Ct).inT p := fun t => absurd (S.dom p (S.tm t)) (by rw [hp]; simp)
  refine ⟨fun a => M a ∨ a = p, r, E, S2, ?_, hk.mo.imp (fun x z vx H1 k1 S1 p1 => ⟨_, r, E, S1, ?_, hv.mo.imp (fun y zz vy H2 k2 S2' p2 => ?_) (fun _ z => z) z⟩) (fun _ z => z) q⟩
  · exact fun c H' k' S' q => hW c H' ((Same.ex (same_upd hp)).trans k') (S.drop hp S') q
  · exact fun c H' k' S' q => hW c H' (((Same.ex (same_upd hp)).trans k1).trans k') (S.drop hp S') q
  · obtain ⟨ks, ex, dp, zq⟩ := zz
    subst ex
    have ea2 : H2 p = some (dnO p o) := k2 p _ nt (k1 p _ nt upd_same)
    have rk := HC.Rp.step (S1.stp k2) p1
    obtain ⟨b, rfl⟩ := rk.tupRef
    refine ⟨_, ks, b, ea2, rfl, rk, dp, fun o' u de' ru => ?_⟩
    have kk : Ct.Ex ⟨X.K, X.prog, X.w, T0, M0, H0⟩ H (upd H2 p (dnO p o')) := fun a x n e => by
      have na : a ≠ p := fun z => by rw [z, hp] at e; cases e
      rw [upd_ne na]
      exact k2 a _ n (k1 a _ n (by rw [upd_ne na]; exact e))
    have S3 := S.takeEx hp kk (tok_upd S2'.base.tok (.inr rfl) nt) (by rw [upd_same]; simp)
    have st : Stp (fun a => M a ∨ a = p) H2 (fun a => M a ∨ a = p) (upd H2 p (dnO p o')) := fun a x e m => ⟨by rw [upd_ne (fun z => m (.inr z))]; exact e, m⟩
    exact zq p _ kk hp S3 (.dctN upd_same de' (.cons (HC.Rp.step st rk) ru (HC.Rp.step st p2) .nil))
end
end HC
/-! HK4: walks of a dict whose keys are tuples; list(d). -/
namespace HC
open PySem PySem.Spec PyProof.Rows L2
def ItN (a : Addr) (o : Obj) (ks : List Addr) : It :=
  ⟨fun i H => H a = some (dnO a o) ∧ i < ks.length, fun i H v H' => H' = H ∧ ∃ b, ks[i]? = some b ∧ v = .ref b, fun i H => H a = some (dnO a o) ∧ ks.length ≤ i⟩
theorem turn_keysN {P : Program} {w : World} {K : PySem.W.Frag} {tg : Expr} {a : Addr} {o : Obj} {es : Array DictEntry} {ep : Nat} {ks : List Addr} (it : Addr) (hod : o.data = .dict es ep) (hks : es.toList.map (·.key) = ks.map Value.ref) :
    Turn P w K tg (ItN a o ks) [it] it (fun i h => h.IsKeyIter it a i ks.length ep) where
  mem := by simp
  obj := fun i h st b hb => by
    have e : b = it := by simpa using hb
    rw [e]
    obtain ⟨oi, e, c, dd⟩ := st
    exact ⟨oi, e, fun v z => by rw [dd] at z; cases z⟩
  keep := fun i h h' st k => st.at fun oi e => k it (by simp) oi e
  item := by
    intro X hP hw hK hc i pins s σ H E I hf st ⟨hd, hi⟩
    subst hP hw hK
    obtain ⟨f0, f1, f2, f3, f4, f5⟩ := hf it (by simp)
    have ho : s.heap.get? a = some o := (I.hok a _ hd).1
    have hsz : es.size = ks.length := by
      have := congrArg List.length hks
      simpa using this
    have hlt : i < es.size := by omega
    have hkey : es[i].key = .ref ks[i] := by
      have h1 : (es.toList.map (·.key))[i]? = (ks.map Value.ref)[i]? := by rw [hks]
      rw [List.getElem?_map, List.getElem?_map, List.getElem?_eq_getElem hi, Array.getElem?_toList, Array.getElem?_eq_getElem hlt] at h1
      exact Option.some.inj h1
    refine next_key_item st ho hod hsz (Array.getElem?_eq_getElem hlt) fun h' st' sb => ?_
    have I1 : Inv X pins σ H { s with heap := h' } := I.turned (t' := s.toks) (fun b ob hb e => (sb.2 b hb).trans e) f0 f1 f3 f4 f5
    obtain ⟨oi, e, c, dd⟩ := id st'
    exact ⟨_, rfl, go_of (s := { s with heap := h' }) e c dd (by decide) ⟨.ref ks[i], H, I1, hkey, ⟨rfl, _, List.getElem?_eq_getElem hi, rfl⟩, st', fun b hb => (hf b hb).1⟩⟩
  done := by
    intro X hP hw hK hc i pins s σ H E I hf st ⟨hd, hi⟩
    subst hP hw hK
    obtain ⟨f0, f1, f2, f3, f4, f5⟩ := hf it (by simp)
    have ho : s.heap.get? a = some o := (I.hok a _ hd).1
    have hsz : es.size = ks.length := by
      have := congrArg List.length hks
      simpa using this
    exact next_key_end (I.ok.hd hc) st ho hod hsz hi fun h' eb => ⟨rfl, I.turned (t' := s.toks) (fun b ob hb e => eb b ob hb e) f0 f1 f3 f4 f5⟩
  self := fun A i s Q E st h => wpAny_pyIter_keyiter st h
theorem dent_keys {P : Program} {w : World} {a : Addr} {o : Obj} {xs : List (NestedKey × Addr × Value)} (h : DEnt P w a o xs) : ∃ es ep, o.data = .dict es ep ∧ es.toList.map (·.key) = (xs.map (·.2.1)).map Value.ref := by
  obtain ⟨_, _, _, es, ep, h1, h2, _⟩ := h
  refine ⟨es, ep, h1, ?_⟩
  rw [h2, List.map_map, List.map_map]
  rfl
theorem rpn_at {K : PySem.W.Frag} {P : Program} {w : World} {M : Addr → Prop} {H : Hp} : ∀ {xs : List (NestedKey × Addr × Value)} {kvs : List (NestedKey × D)}, RpN K P w M H xs kvs → ∀ {i : Nat} {b : Addr}, (xs.map (·.2.1))[i]? = some b → ∃ p, kvs[i]? = some p ∧ Rp K P w M H (.ref b) (keyD p.1)
  | _, _, .nil, i, b, h => by simp at h
  | _, _, .cons (k := k) (d := d) h1 h2 h3 h4, 0, b, h => by
    simp at h
    subst h
    exact ⟨(k, d), rfl, h1⟩
  | _, _, .cons h1 h2 h3 h4, i + 1, b, h => rpn_at h4 (i := i) (by simpa using h)
section
variable {C : Ct}
theorem yields_td {M : Addr → Prop} {H : Hp} {a : Addr} {o : Obj} {xs : List (NestedKey × Addr × Value)} {kvs : List (NestedKey × D)} (m : ¬ M a) (ea : H a = some (dnO a o)) (rn : RpN C.K C.P C.w M H xs kvs) :
    Yields C M H (ItN a o (xs.map (·.2.1))) (kvs.map fun p => keyD p.1) := by
  have hl := rpn_len rn
  refine ⟨fun i M1 H1 st hi => ⟨(st a _ ea m).1, ?_⟩, fun i M1 H1 x H2 st dm hi ⟨e, b, hb, hx⟩ => ?_, fun i M1 H1 st hi => ⟨(st a _ ea m).1, ?_⟩⟩
  · rw [List.length_map] at hi ⊢
    omega
  · subst e hx
    obtain ⟨p, hp, rp⟩ := rpn_at rn hb
    exact ⟨keyD p.1, by rw [List.getElem?_map, hp]; rfl, Same.refl', rp.step st⟩
  · rw [List.length_map] at hi ⊢
    omega
end
def iSeq (t : TP) : TPA := fun r Q E => t r (fun d => match d with
  | .list ds => Q ds
  | .tuple ds => Q ds
  | .tdict kvs => Q (kvs.map fun p => keyD p.1)
  | _ => False) E
theorem mono_iseq {t : TP} (h : Mono t) : MonoI (iSeq t) := ⟨fun hq he q => h.imp (fun d z => by
  split at z
  · exact hq _ z
  · exact hq _ z
  · exact hq _ z
  · exact z) he q⟩
section
variable {X : Cx} {C : Ct} {W : XW} {e tg : Expr} {t : TP} {pos : Pos} {k : Nat}
theorem di_seq (G : Good X C W k) (he : DV X C W e t) : DI X C W tg e (iSeq t) := by
  refine ⟨⟨fun pins s σ H R I ⟨M, r, E, S, hW, q⟩ => ?_⟩, mono_iseq he.mo⟩
  have FF := G.fit
  obtain ⟨K0, P0, w0, T0, M0, H0⟩ := C
  obtain ⟨z1, z2, z3⟩ := FF
  cases z1; cases z2; cases z3
  refine thn (he.pe.run pins s σ H (fun x H1 => ∃ a, x = .ref a ∧ ((∃ xs, SqL X.K H1 a xs ∧ R (Itl X.K a) H1) ∨ (∃ xs, SqT X.K H1 a xs ∧ R (Itt X.K a) H1) ∨ ∃ o xs, H1 a = some (dnO a o) ∧ DEnt X.prog X.w a o xs ∧ R (ItN a o (xs.map (·.2.1))) H1)) I ⟨M, r, E, S, hW, he.mo.imp (fun d z v H1 k1 S1 p1 => ?_) (fun _ z => z) q⟩) fun v s1 ⟨x, H1, I1, r1, a, ex, q1⟩ => ?_
  · cases d with
    | list ds =>
      cases p1 with
      | @lst a xs _ m ea pa => exact ⟨a, rfl, .inl ⟨xs, SqL.of ea, z _ H1 k1 S1 (yields_list m ea pa)⟩⟩
    | tuple ds =>
      cases p1 with
      | @tup a xs _ m ea pa => exact ⟨a, rfl, .inr (.inl ⟨xs, SqT.of ea, z _ H1 k1 S1 (yields_tup (fun M1 H1 s => SqT.of (s a _ ea m).1) pa)⟩)⟩
      | @ktup a xs _ ea pa => exact ⟨a, rfl, .inr (.inl ⟨xs, .inr ea, z _ H1 k1 S1 (yields_tup (fun M1 H1 s => .inr ea) pa)⟩)⟩
    | tdict kvs =>
      cases p1 with
      | @dctN a o xs _ m ea de rn => exact ⟨a, rfl, .inr (.inr ⟨o, xs, ea, de, z _ H1 k1 S1 (yields_td m ea rn)⟩)⟩
    | _ => exact z.elim
  · subst ex
    cases r1
    rcases q1 with ⟨xs, hq, q⟩ | ⟨xs, hq, q⟩ | ⟨o, xs, ea, de, q⟩
    · obtain ⟨its, rv, p, hz⟩ := I1.list hq
      exact wpAny_pyIter_list p.isList (pi_one (tk := s1.toks) I1 _ (turn_list a _) ⟨_, Heap.get?_push_size _ rfl, rfl, rfl⟩ q)
    · obtain ⟨its, rv, p, hz⟩ := I1.tuple hq
      exact wpAny_pyIter_tuple (show s1.heap.IsTuple a its.toArray from p) (pi_one (tk := s1.toks) I1 _ (turn_tuple a _) ⟨_, Heap.get?_push_size _ rfl, rfl, rfl⟩ q)
    · obtain ⟨es, ep, h1, h2⟩ := dent_keys de
      have ho : s1.heap.get? a = some o := (I1.hok a _ ea).1
      refine iter_keys de.2.1 ho de.2.2.1 h1 (pi_one (tk := s1.toks) I1 _ (turn_keysN _ h1 h2) ⟨_, Heap.get?_push_size _ rfl, rfl, ?_⟩ q)
      have : es.size = (xs.map (·.2.1)).length := by
        have := congrArg List.length h2
        simpa using this
      rw [this]
      rfl
end
end HC
/-! HX1: try: .. except C as e: .. the exception kept behind the suite. -/
namespace HC
open PySem PySem.Spec PyProof.Rows L2
def xcH (a : Addr) (cls : Value) (d : Option Addr) : HO := .ext fun h => ∃ o vs, h.get? a = some o ∧ Zc cls d o ∧ o.data = .fields vs
/-- an object of the heap that was not followed is followed from now on -/
theorem Inv_track {X : Cx} {pins : List (Addr × Obj)} {σ : L2.St} {H : Hp} {s : Shared} {a : Addr} {oe : Obj} {o : HO} (I : Inv X pins σ H s) (ho : s.heap.get? a = some oe) (na : H a = none) (nL : a ≠ X.env.locals) (nc : ∀ v, oe.data ≠ .cell v)
    (np : ∀ p ∈ X.pn ++ pins, p.1 ≠ a) (n0 : X.s_0.heap.get? a = none) (new : ObjOk X.prog X.w (upd H a o) s.heap a o) : Inv X pins σ (upd H a o) s := by
  have same : ∀ {b : Addr} {u : HO}, H b = some u → upd H a o b = some u := fun {b u} e => by rw [upd_ne (ne_of_none e na)]; exact e
  refine ⟨I.ok, I.os, I.bare, ⟨I.base.keep, I.base.slot, fun b ob e1 e2 e3 => ?_, I.base.there, fun b xs e => same (I.base.tups b xs e), fun b ob u e => same (I.base.frzs b ob u e), fun b ps e => ?_⟩, I.loc, I.cell, ?_, fun x c e => ?_, fun p hp => ?_, fun b u e => ?_, I.len⟩
  · have nb : b ≠ a := fun z => by rw [z, n0] at e1; cases e1
    rw [upd_ne nb]
    exact I.base.free b ob e1 e2 e3
  · obtain ⟨more, q⟩ := I.base.tbls b ps e
    exact ⟨more, same q⟩
  · rw [upd_ne (Ne.symm nL)]
    exact I.free
  · have nca : c ≠ a := fun z => by
      obtain ⟨v, oc, q1, q2⟩ := I.cell x c e
      rw [z, ho] at q1
      cases q1
      exact nc v q2
    rw [upd_ne nca]
    exact I.freeC x c e
  · obtain ⟨h1, h2, h3, h4, h5⟩ := I.pin p hp
    exact ⟨h1, by rw [upd_ne (np p hp)]; exact h2, h3, h4, h5⟩
  · by_cases hb : b = a
    · subst hb
      rw [upd_same] at e
      cases e
      exact new
    · rw [upd_ne hb] at e
      exact (I.hok b u e).stay (fun c w' _ q => q) (fun c q => same q) fun c xs q => same q
/-- what the clause wishes of an exception: it is of the class c, and behind the suite it is followed -/
def wKp (K : PySem.W.Frag) (c : Value) (i : Nat) (ts : Addr → Value → Option Addr → TS) (De : Ends) : WX := fun cls d σ H =>
  PySem.W.exmOne K cls c = some true ∧ ∀ a, H a = none → ts a cls d { nx := fun σ' H' => De.nx (σ'.set i none) (upd H' a (xcH a cls d)), rt := fun _ _ => False, bk := fun _ _ => False, ct := fun _ _ => False } (σ.set i (some (.ref a))) H
section
variable {X : Cx} {x n : Str} {c : Value} {i : Nat} {body suite : List Stmt} {b₀ : Stmt} {np pos pos' : Pos} {tb : WX → TS} {ts : Addr → Value → Option Addr → TS}
theorem ps_try_keep (hs : X.stack = X.env :: X.outer) (hf : X.env.frame = some X.env.locals) (hex : X.ex = []) (hN : X.N.Nodup) (hi : X.N[i]? = some n) (hln : X.env.kindOf n = some .local) (hc : Names X x c)
    (hb : ∀ (W : WX) (pn : List (Addr × Obj)) (xe : Value → Shared → Prop), Takes (X.tr pn xe) W → PassesOwn (model X.prog X.w) X.A X.env xe → PSs (X.tr pn xe) body (tb W))
    (hsu : ∀ (a : Addr) (oe : Obj) (cls : Value) (d : Option Addr) (pn : List (Addr × Obj)), Zc cls d oe → (∃ vs, oe.data = .fields vs) → PSs (X.suite a ((a, oe) :: pn)) (b₀ :: suite) (ts a cls d)) :
    PS X (.Try body [.ExceptHandler (some (.Name x np)) (some n) (b₀ :: suite) pos'] [] [] pos) (fun De σ H => tb (wKp X.K c i ts De) De σ H) := by
  refine ⟨fun pins s σ H De I h => wpAny_Try_except ?_⟩
  have ok := I.ok
  have frames : X.A.frames = some (X.env :: X.outer) := ok.frames.trans (congrArg some hs)
  refine wpAny_mono ((hb (wKp X.K c i ts De) (X.pn ++ pins) _ (fun u s' ex => ?_) PassesOwn.looking).run [] s σ H De (I.toTry _) h) (fun f s1 hsp => ?_) fun _ _ z => z
  · obtain ⟨a, B, sI, pins', σ', H', cls, d, eu, J', nb, up, sky, na, os, ag, mt, go⟩ := ex
    subst eu
    have J : Inv X pins σ' H' sI := J'.ofTry ok
    rw [show (X.tr (X.pn ++ pins) _).stack = X.env :: X.outer from hs] at sky
    refine Sky.land Zc.steady frames hf sky fun hA flA upA => ?_
    obtain ⟨oA, vsA, getA, zA, dA⟩ := flA.there
    have out : a ∉ frs (X.env :: X.outer) := fun hm => by
      obtain ⟨_, o', e', hnf⟩ := flA.2.2.1.mem hm
      rw [getA] at e'
      cases e'
      exact hnf _ dA
    have out' : a ∉ frs X.stack := by rw [hs]; exact out
    have aL : a ≠ X.env.locals := fun z => out (List.mem_filterMap.mpr ⟨X.env, List.mem_cons_self, by rw [hf, z]⟩)
    have aF : a ∉ X.fs := fun hm => by
      obtain ⟨e, he, q⟩ := List.mem_filterMap.mp hm
      exact out (List.mem_filterMap.mpr ⟨e, List.mem_cons_of_mem _ he, q⟩)
    have Ba : B.get? a = none := flA.2.1
    have nI : sI.heap.get? a = none := by
      cases q : sI.heap.get? a with
      | none => rfl
      | some o =>
        have := nb a o q out'
        rw [Ba] at this
        cases this
    have n0 : X.s_0.heap.get? a = none := by
      cases q : X.s_0.heap.get? a with
      | none => rfl
      | some o =>
        obtain ⟨o', e'⟩ := J.base.there a o q (by rw [hex]; simp)
        rw [nI] at e'
        cases e'
    have npin : ∀ p ∈ X.pn ++ pins, p.1 ≠ a := fun p hp z => by
      have := (J.pin p hp).1
      rw [z, nI] at this
      cases this
    have JA : Inv X pins σ' H' { s' with heap := hA } := J.landed nb flA.1 (up.trans upA) os ag
    have SA := JA.suite getA dA na aL aF
    have looks : PySem.W.Looks (model X.prog X.w) hA (typeOf (.ref a)) cls := fun A Q E s k q => wpAny_typeOf_ref (k _ _ getA) (by rw [zA.1]; exact q)
    have matches_ := PySem.W.exm_one (M := model X.prog X.w) JA.kIn looks mt
    have name_ : ∀ {Q : Value → Shared → Prop} {E : Value → Shared → Prop}, Q c { s' with heap := hA } → wpAny (model X.prog X.w) (X.A.mark (some (.ref a))) (eval (.Name x np) X.env) Q E { s' with heap := hA } := fun {Q E} q => by
      obtain ⟨hg, hdbg, hm⟩ := hc
      rcases hm with hm | ⟨hm, hv, hnn⟩
      · exact ld_glob (X := X.suite a ((a, oA) :: (X.pn ++ pins))) SA hg hm q hdbg
      · exact ld_blt (X := X.suite a ((a, oA) :: (X.pn ++ pins))) SA hg hm hv q hnn hdbg
    refine wpAny_handleBy_cons (codeAny_handlers_test (name_ (matches_.here (codeAny_handlers_suite_as (HandSPX.lands_againZ flA fun hC flC upC => ?_))))) (by intro q; cases q)
    obtain ⟨oC, vsC, getC, zC, dC⟩ := flC.there
    have JC : Inv X pins σ' H' { s' with heap := hC } := J.landed nb flC.1 ((up.trans upA).trans upC) os ag
    refine store_ok (X := X.suite a ((a, oC) :: (X.pn ++ pins))) (v := .ref a) (JC.suite getC dC na aL aF) hN hi (.inl hln) rfl (fun s5 S5 => ?_) (.inr hln)
    refine wpAny_mono ((hsu a oC cls d (X.pn ++ pins) zC ⟨_, dC⟩).run [] s5 _ H' _ S5 (go a na)) (fun f s6 hsp => ?_) (fun _ _ z => False.elim z)
    cases f with
    | next =>
      obtain ⟨σ6, H6, S6, q6⟩ := hsp
      obtain ⟨p1, p2, p3, p4, p5⟩ := S6.pin (a, oC) (List.mem_append_left _ List.mem_cons_self)
      have J6 : Inv X ((a, oC) :: pins) σ6 H6 s6 := (S6.unsuite ok).pins_of fun p hp => by
        rcases List.mem_cons.mp hp with e | hp
        · subst e
          exact ⟨p1, p2, p3, p4, p5⟩
        · exact (S6.unsuite ok).pin p (List.mem_append_right _ hp)
      refine gone_ok J6 hN hi hln fun s7 J7 => ⟨_, _, ?_, q6⟩
      obtain ⟨t1, t2, t3, t4, t5⟩ := J7.pin (a, oC) (List.mem_append_right _ List.mem_cons_self)
      have J8 : Inv X pins (σ6.set i none) H6 s7 := J7.pins_of fun p hp => J7.pin p (List.mem_append_right _ (List.mem_cons_of_mem _ hp))
      exact Inv_track J8 t1 t2 t3 t5 npin n0 ⟨⟨oC, vsC, t1, zC, dC⟩, ⟨oC, t1⟩, fun h1 h2 ⟨o, vs, e1, e2, e3⟩ k => ⟨o, vs, k _ e1, e2, e3⟩⟩
    | brk => obtain ⟨_, _, _, q⟩ := hsp; exact q.elim
    | cont => obtain ⟨_, _, _, q⟩ := hsp; exact q.elim
    | ret u => obtain ⟨_, _, _, _, _, q⟩ := hsp; exact q.elim
  · cases f with
    | next => exact let ⟨σ', H', J', q⟩ := hsp; wpAny_execs_nil ⟨σ', H', J'.ofTry ok, q⟩
    | brk => exact let ⟨σ', H', J', q⟩ := hsp; ⟨σ', H', J'.ofTry ok, q⟩
    | cont => exact let ⟨σ', H', J', q⟩ := hsp; ⟨σ', H', J'.ofTry ok, q⟩
    | ret u => exact let ⟨v, σ', H', J', r, q⟩ := hsp; ⟨v, σ', H', J'.ofTry ok, r, q⟩
end
end HC
/-! HX2: try: .. except C as e: caught = e. -/
namespace HC
open PySem PySem.Spec PyProof.Rows L2
/-- j: the name that keeps the exception; i: the clause's own name -/
def sTry (p : Addr → Prop) (j i : Nat) (t : TSD) : TSD := fun e r => t { e with ex := fun r' c => p c ∧ i < r'.length ∧ e.nx ((r'.set j (.val (.exc c))).set i .un) } r
section
variable {X : Cx} {C : Ct} {W : XW} {k : Nat} {body : List Stmt} {t : TSD} {x n y : Str} {c : Addr} {p : Addr → Prop} {np pn py pa pos pos' : Pos}
theorem ds_try (j i : Nat) (G : Good X C W k) (hji : i ≠ j) (mt : ∀ c', p c' → PySem.W.exmOne X.K (.ref c') (.ref c) = some true) (hg : X.mg x = some (.ref c)) (d0 : DSs X C W body t)
    (hb : ∀ (pins : List (Addr × Obj)) (xe : Value → Shared → Prop) (W' : XW), Good (X.tr pins xe) C W' k → Takes (X.tr pins xe) (fun cls d σ H => W' σ cls d H) → DSs (X.tr pins xe) C W' body t)
    (hs : X.stack = X.env :: X.outer := by rfl) (hf : X.env.frame = some X.env.locals := by rfl) (hex : X.ex = [] := by rfl) (hi : X.N[i]? = some n := by rfl) (hln : X.env.kindOf n = some .local := by rfl) (hgl : Gl X x := by rfl) (hdb : (x == ("__debug__" : Str)) = false := by decide)
    (hsu : ∀ (a : Addr) (oe : Obj) (pins : List (Addr × Obj)), PS (X.suite a ((a, oe) :: pins)) (.Assign [.Name y py] (.Name n pn) pa) (tAsg (tVar i) (gName j))) :
    DS X C W (.Try body [.ExceptHandler (some (.Name x np)) (some n) [.Assign [.Name y py] (.Name n pn) pa] pos'] [] [] pos) (sTry p j i t) := by
  refine ⟨(ps_try_keep (c := .ref c) (tb := fun W' => lS C (fun σ cls d H => W' cls d σ H) t) (ts := fun _ _ _ => tAsg (tVar i) (gName j)) hs hf hex G.nd hi hln ⟨hgl, hdb, .inl hg⟩ (fun W' pins xe tk own => (hb pins xe (fun σ cls d H => W' cls d σ H) ?_ tk).ps)
    (fun a oe cls d pins _ _ => pss_one (hsu a oe pins))).imp fun De σ H ⟨M, r, e, S, f, q⟩ => ⟨M, r, _, S, ?_, q⟩, ⟨fun {e e' r} h q => d0.mo.imp (e := { e with ex := fun r' c => p c ∧ i < r'.length ∧ e.nx ((r'.set j (.val (.exc c))).set i .un) }) (e' := { e' with ex := fun r' c => p c ∧ i < r'.length ∧ e'.nx ((r'.set j (.val (.exc c))).set i .un) }) ⟨h.nx, h.rt, h.bk, h.ct, fun r' c' z => ⟨z.1, z.2.1, h.nx _ z.2.2⟩⟩ q⟩⟩
  · exact ⟨⟨G.fit.k, G.fit.p, G.fit.w⟩, G.calm, G.room, fun σ => passAt tk σ, own, G.nd⟩
  · refine ⟨f.nx, f.rt, f.bk, f.ct, fun M' r' σ' H' c' st S' z => ⟨mt c' z.1, fun a ha => ?_⟩⟩
    have hlen : i < σ'.length := by rw [S'.len]; exact z.2.1
    refine ⟨.ref a, List.getElem?_set_self hlen, ?_⟩
    have sm : Same H' (upd H' a (xcH a (.ref c') Option.none)) := same_upd ha
    have S2 : Sim C M' r' σ' (upd H' a (xcH a (.ref c') Option.none)) := S'.same sm
    have S3 := S2.set (i := j) (v := .ref a) (d := .exc c') (.exc (fun m => S'.dom a m ha) upd_same)
    have S4 := S3.un i
    have e1 : (((σ'.set i (some (V.ref a))).set j (some (V.ref a))).set i none) = ((σ'.set j (some (V.ref a))).set i none) := by
      rw [List.set_comm _ _ hji, List.set_set]
    show De.nx (((σ'.set i (some (V.ref a))).set j (some (V.ref a))).set i none) _
    rw [e1]
    exact f.nx M' _ _ _ (st.trans (Stp.grow sm)) S4 z.2.2
end
end HC
/-! HX3: isinstance of an exception; xs.count(True), xs.index(y), xs.pop(). -/
namespace HC
open PySem PySem.Spec PyProof.Rows L2
/-- what isinstance asks of a class of exceptions -/
structure XIs (K : PySem.W.Frag) (c : Addr) : Prop where
  cl : (PySem.W.clsIn K c).isSome = true
  ga : PySem.W.findIn K (.ref c) "__getattribute__" = some (some (.builtin "BaseException.__getattribute__"))
  gt : PySem.W.findIn K (.ref c) "__getattr__" = some none
  sub : PySem.W.subIn K (.ref c) (.type "BaseException") = some true
  ha : PySem.W.findIn K (.ref c) "__class__" = some (some (.builtin "object.__class__"))
  hn : PySem.W.specialIn K (.builtin "object.__class__") "__get__" = some (some (.builtin "getset_descriptor.__get__"))
  tk : PySem.W.takesIn K (.builtin "object.__class__") = some true
  hm : PySem.W.mroIn K c (.type "object") = some true
section
variable {X : Cx} {C : Ct} {W : XW} {k : Nat} {e : Expr} {t : TP} {pos p : Pos}
theorem call_isiX : CallR X (.builtin "isinstance") (fun xs H Q => ∃ (a c : Addr) (cv : V) (u : Value) (b : Bool), xs = [.ref a, cv] ∧ ClsV cv u ∧ H a = some (xcO a c) ∧ XIs X.K c ∧ PySem.W.kitOne X.K (.ref c) u = some b ∧ Q (.bl b) H) := by
  intro pins s σ H xs us Q I r ⟨a, c, cv, u, b, e, cl, ea, xi, kt, q⟩
  subst e
  obtain ⟨u1, u2, rfl, r1, r2⟩ := vals2 r
  have e2 := cl.eq r2
  subst e2
  cases r1
  obtain ⟨o, vs, ho, ⟨h1, h2⟩, h3⟩ := (I.hok a _ ea).1
  have inst : PySem.W.InstAt s.heap a o c none := ⟨ho, h1, by unfold PySem.W.notCls; rw [h3], by rw [h2]; trivial⟩
  exact PySem.W.kia_one (PySem.W.kitx_exc (ox := o) (od := none) xi.cl xi.ga xi.gt xi.sub xi.ha xi.hn xi.tk xi.hm) I.kIn inst kt (fun z => nomatch z) fun tk => ⟨.bl b, H, I.tok tk, rfl, q⟩
/-- f tells the answer, by the exception's class -/
def wIsX (f : Addr → Option Bool) (t : TP) : TP := fun r Q E => t r (fun d => ∃ c b, d = .exc c ∧ f c = some b ∧ Q (.bool b)) E
theorem dv_isX {f : Addr → Option Bool} {y : Str} {c0 : Addr} {p1 : Pos} (G : Good X C W k) (ha : DE X C W e t) (m1 : X.mg "isinstance" = none) (m2 : X.mg y = some (.ref c0)) (hf : ∀ c b, f c = some b → XIs X.K c ∧ PySem.W.kitOne X.K (.ref c) (.ref c0) = some b)
    (hg : Gl X "isinstance" := by rfl) (hg2 : Gl X y := by rfl) (hd : (y == ("__debug__" : Str)) = false := by decide)
    (he : starEach [e, .Name y p1] X.env = (false, eval e X.env) :: starEach [.Name y p1] X.env := by rfl) (hpl : (backTo pos (starEach [.Name y p1] X.env)).any (·.1) = false := by rfl) :
    DV X C W (.Call (.Name "isinstance" p) [e, .Name y p1] [] pos) (wIsX f t) := by
  refine ⟨(pe_callB call_isiX hg m1 (by decide +kernel) (pa_cons ha.pe (pa_cons (pe_glob (v := .ref c0) hg2 m2 rfl hd) pa_nil) he) (by decide) (by decide) he hpl).imp fun σ H Q ⟨M, r, E, S, hW, q⟩ => ⟨M, r, E, S, hW, ha.mo.imp (fun x z v H1 k1 S1 p1 => ?_) (fun _ z => z) q⟩,
    ⟨fun hq he' q => ha.mo.imp (fun x z => let ⟨c, b, h1, h2, h3⟩ := z; ⟨c, b, h1, h2, hq _ h3⟩) he' q⟩⟩
  obtain ⟨c, b, ex, h1, h2⟩ := z
  subst ex
  obtain ⟨g1, g2⟩ := hf c b h1
  rcases p1 with p1 | ⟨a, _, _, tp⟩
  · cases p1 with
    | @exc a _ m ea => exact ⟨a, c, .ref c0, .ref c0, b, rfl, .own c0, ea, g1, g2, h2 _ H1 k1 S1 (.bl b)⟩
  · cases tp
theorem dv_isXB {f : Addr → Option Bool} {T : String} {y : Str} {p1 : Pos} (G : Good X C W k) (ha : DE X C W e t) (m1 : X.mg "isinstance" = none) (m2 : X.mg y = none) (hv : bootBuiltins y = some (.type T)) (hf : ∀ c b, f c = some b → XIs X.K c ∧ PySem.W.kitOne X.K (.ref c) (.type T) = some b)
    (hg : Gl X "isinstance" := by rfl) (hg2 : Gl X y := by rfl) (hn : y ≠ "__name__" := by decide) (hd : (y == ("__debug__" : Str)) = false := by decide)
    (he : starEach [e, .Name y p1] X.env = (false, eval e X.env) :: starEach [.Name y p1] X.env := by rfl) (hpl : (backTo pos (starEach [.Name y p1] X.env)).any (·.1) = false := by rfl) :
    DV X C W (.Call (.Name "isinstance" p) [e, .Name y p1] [] pos) (wIsX f t) := by
  refine ⟨(pe_callB call_isiX hg m1 (by decide +kernel) (pa_cons ha.pe (pa_cons (pe_bltn hg2 m2 hv (v := .ty T) rfl hn hd) pa_nil) he) (by decide) (by decide) he hpl).imp fun σ H Q ⟨M, r, E, S, hW, q⟩ => ⟨M, r, E, S, hW, ha.mo.imp (fun x z v H1 k1 S1 p1 => ?_) (fun _ z => z) q⟩,
    ⟨fun hq he' q => ha.mo.imp (fun x z => let ⟨c, b, h1, h2, h3⟩ := z; ⟨c, b, h1, h2, hq _ h3⟩) he' q⟩⟩
  obtain ⟨c, b, ex, h1, h2⟩ := z
  subst ex
  obtain ⟨g1, g2⟩ := hf c b h1
  rcases p1 with p1 | ⟨a, _, _, tp⟩
  · cases p1 with
    | @exc a _ m ea => exact ⟨a, c, .ty T, .type T, b, rfl, .ty T, ea, g1, g2, h2 _ H1 k1 S1 (.bl b)⟩
  · cases tp
end

/-! ### methods of lists that are looked at -/
abbrev Mn := List D → List D → (D → Prop) → Prop
structure MoM (g : Mn) : Prop where
  imp : ∀ {x y : List D} {Q Q' : D → Prop}, (∀ d, Q d → Q' d) → g x y Q → g x y Q'
def wM (g : Mn) (to : TP) (u : TPA) : TP := fun r Q E => to r (fun x => match x with
  | .list ds => u r (fun ys => g ds ys Q) E
  | _ => False) E
def rDm (C : Ct) (g : Mn) : V → List V → Hp → VK → Prop := fun x xs H Q => ∃ M ds ys, C.Rq M H x (.list ds) ∧ RqA C M H xs ys ∧ Dom M H ∧ g ds ys fun d => ∀ v H', Same H H' → C.Rp M H' v d → Q v H'
section
variable {X : Cx} {C : Ct} {W : XW} {k : Nat} {o e : Expr} {es : List Expr} {to : TP} {u : TPA} {g : Mn} {name : Str} {id : String} {apos cpos : Pos}
theorem dv_meth (G : Good X C W k) (slot : Slot "list" name id) (hty : typeOf (.builtin id) = pure (.type "method_descriptor")) (hm : MtR X id (rDm C g)) (mg : MoM g) (ho : DE X C W o to) (ha : DAq X C W (e :: es) u)
    (hbase : attributeBase o name X.env (eval o X.env) = eval o X.env := by rfl)
    (hfew : ((backTo cpos (starEach (e :: es) X.env)).all (fun x => !x.1) && (backToKw cpos (keywordEach [] X.env)).all (fun x => x.1.isSome)
      && decide ((e :: es).length + ([] : List Keyword).length + (if ([] : List Keyword).isEmpty then 0 else 1) < 30)) = true := by rfl)
    (hline : (apos.endLine == cpos.line) = true := by rfl) (hs : starEach (e :: es) X.env = (false, eval e X.env) :: starEach es X.env := by rfl) (hplain : (backTo cpos (starEach es X.env)).any (·.1) = false := by rfl) :
    DV X C W (.Call (.Attribute o name apos) (e :: es) [] cpos) (wM g to u) := by
  refine ⟨(pe_bm PySem.F.plainAttrs_list slot hty hm ho.pe ha.pa hbase hfew hline hs hplain).imp fun σ H Q ⟨M, r, E, S, hW, q⟩ => ⟨M, r, E, S, hW, ho.mo.imp (fun x z v H1 k1 S1 p1 => ?_) (fun _ z => z) q⟩,
    ⟨fun hq he q => ho.mo.imp (fun x z => ?_) he q⟩⟩
  · cases x with
    | list ds =>
      obtain ⟨a, xs, rfl, ea, pa⟩ := p1.lst
      refine ⟨.inl ⟨rfl, xs, ?_⟩, M, r, E, S1, hW.mono k1, ha.mo.imp (fun ys hl z vs H2 k2 S2 p2 => ⟨M, ds, ys, S1.rq k2 p1, p2, S2.dom, mg.imp (fun d z v H3 sm rp => ?_) z⟩) (fun _ z => z) z⟩
      · have fk := G.fit.k
        exact SqL.of ea
      · exact z v H3 (k1.trans (k2.trans (Same.ex sm))) (S2.same sm) rp
    | _ => exact z.elim
  · cases x with
    | list ds => exact ha.mo.imp (fun ys _ z => mg.imp hq z) he z
    | _ => exact z
end
/-! ### xs.index(y), xs.count(True) -/
/-- the first place of y -/
def gIndex : Mn := fun ds ys Q => match ys with
  | [y] => (y.sh 64 ∧ (D.list ds).sh 64) ∧ ∃ (j : Nat) (z : D), ds[j]? = some z ∧ deq z y = true ∧ (∀ (m : Nat) (z' : D), m < j → ds[m]? = some z' → deq z' y = false) ∧ Q (.int j)
  | _ => False
theorem mo_index : MoM gIndex := ⟨fun {x y Q Q'} hq h => by
  unfold gIndex at h ⊢
  split at h
  · obtain ⟨a, j, z, b, c, d, q⟩ := h
    exact ⟨a, j, z, b, c, d, hq _ q⟩
  · exact h⟩
theorem pys_at : ∀ (ds : List D) (j : Nat), (D.pys ds)[j]? = (ds[j]?).map D.py
  | [], j => by simp [D.pys]
  | d :: ds, 0 => by simp [D.pys]
  | d :: ds, j + 1 => by simpa [D.pys] using pys_at ds j
section
variable {X : Cx} {C : Ct} {W : XW} {k : Nat}
theorem mt_indexM (hu : X.A.units + 65 < cLine) (F : Fit X C) : MtR X "list.index" (rDm C gIndex) := by
  refine fit_cases (X := X) (motive := fun C => MtR X "list.index" (rDm C gIndex)) (fun T M0 H0 => ?_) C F
  intro pins s σ H x xs v us Q I rx rxs ⟨M, ds, ys, r1, r2, dm, h⟩
  refine mt_indexD hu pins s σ H x xs v us Q I rx rxs ?_
  unfold gIndex at h
  split at h
  · rename_i y
    obtain ⟨⟨s1, s2⟩, j, z, hz, hzy, hno, q⟩ := h
    obtain ⟨w, rfl, r3⟩ := rq1 r2
    obtain ⟨a, zs, rfl, ea, pa⟩ := r1.lst
    refine ⟨a, w, y.py, D.pys ds, j, z.py, rfl, rfl, r1.dp s2.pl, r3.dp s1.pl, s2.shaped, s1.shaped, ?_, hzy, fun m z' hm hz' => ?_, q _ _ Same.refl' (.int _)⟩
    · rw [pys_at, hz]; rfl
    · rw [pys_at] at hz'
      obtain ⟨z2, h2, rfl⟩ := Option.map_eq_some_iff.mp hz'
      exact hno m z2 hm h2
  · exact h.elim
def gCountT : Mn := fun ds ys Q => ∃ bs, dBools ds = some bs ∧ ys = [.bool true] ∧ Q (.int (bs.count true : Nat))
theorem mo_countT : MoM gCountT := ⟨fun hq ⟨bs, a, b, q⟩ => ⟨bs, a, b, hq _ q⟩⟩
def isTrueV : Value → Bool
  | .bool b => b
  | _ => false
theorem count_bools : ∀ {bs : List Bool} {its : List Value}, Vals (bs.map V.bl) its → its.countP isTrueV = bs.count true ∧ ∀ y ∈ its, ∃ b, y = .bool b
  | [], _, .nil => ⟨rfl, fun y h => by cases h⟩
  | b :: bs, _, .cons r t => by
    obtain ⟨h1, h2⟩ := count_bools t
    have r : _ = Value.bool b := r
    subst r
    refine ⟨?_, fun y hy => ?_⟩
    · rw [List.countP_cons, h1, List.count_cons]
      cases b <;> rfl
    · rcases List.mem_cons.mp hy with rfl | hy
      · exact ⟨b, rfl⟩
      · exact h2 y hy
theorem mt_countM (F : Fit X C) : MtR X "list.count" (rDm C gCountT) := by
  refine fit_cases (X := X) (motive := fun C => MtR X "list.count" (rDm C gCountT)) (fun T M0 H0 => ?_) C F
  intro pins s σ H x xs v us Q I rx rxs ⟨M, ds, ys, r1, r2, dm, bs, hb, e, q⟩
  subst e
  obtain ⟨w, rfl, r3⟩ := rq1 r2
  cases of_bools hb
  obtain ⟨a, zs, rfl, ea, pa⟩ := r1.lst
  have ez := HC.RpA.ofBools pa
  subst ez
  have ew := r3.bl
  subst ew
  cases rx
  obtain ⟨u, rfl, ru⟩ := rxs.one
  have ru : u = Value.bool true := ru
  subst ru
  obtain ⟨its, rv, ⟨⟨cls, dd, data, sl⟩, n, ho, hc, hdn, hd⟩, hlen⟩ := I.list (SqL.of ea)
  simp only at hc hd
  subst hc hd
  obtain ⟨c1, c2⟩ := count_bools rv
  refine call_meets PySem.F.slot_list_count ⟨_, ho, rfl⟩ PySem.F.entry_list_count (PySem.F.args_list_count_2 _ _)
    (SeqAt.list_countAt a its.toArray n dd sl (.bool true) isTrueV) ⟨ho, fun y hy => ?_, ?_⟩
  · obtain ⟨b, rfl⟩ := c2 y (by simpa using hy)
    have := eqAt_leaf (A := X.A.in1) (s := s) (x := .num (if b = true then 1 else 0)) (y := .num 1) (u := .bool b) (v := .bool true) (by simp [Leaf.isOf]) (by simp [Leaf.isOf])
    cases b with
    | true => exact this
    | false => exact this
  · refine ⟨.int (bs.count true : Nat), H, I.tok _, ⟨s.toks, ?_⟩, q _ _ Same.refl' (.int _)⟩
    show Value.int ((its.toArray.toList.countP isTrueV : Nat) : Int) s.toks = Value.int ((bs.count true : Nat) : Int) s.toks
    rw [show its.toArray.toList = its from rfl, c1]
end
end HC
/-! HI1: enumerate(zip(xs, ys)), at the library's level. -/
namespace HC
open PySem PySem.Spec PyProof.Rows L2
/-- a zip object, its first two fields left open -/
abbrev ZipSt (h : Heap) (z TI TO : Addr) (f0 : Value) (f : Bool) : Prop :=
  h.get? z = some { cls := .type "zip", dict := none, data := .fields #[f0, .bool f, .bool false, .ref TI, .ref TO], slots := #[] }
section
variable {prog : Program} {w : World} {A : Around} {E : Value → Shared → Prop} {s : Shared}
theorem dead_load {a : Addr} {Q : Option Obj → Shared → Prop} (ho : s.heap.get? a = none) (h : Q none s) : wpAny (model prog w) A (loadIfAlive a) Q E s := by
  have h' : Q (s.heap.get? a) s := by rw [ho]; exact h
  exact fun _ _ _ => h'
theorem free_dead {z TI TO T : Addr} {f : Bool} {Q : Bool → Shared → Prop} (hz : ZipSt s.heap z TI TO (rawInt T) f) (hT : s.heap.get? T = none) (h : Q true s) : wpAny (model prog w) A (Builtin.SmallTypes.ownedTupleIsFree (.ref z)) Q E s := by
  unfold Builtin.SmallTypes.ownedTupleIsFree
  refine wpAny_bind (wpAny_field hz rfl (x := rawInt T) rfl ?_)
  show wpAny _ _ (loadIfAlive (Int.toNat (T : Int)) >>= _) _ _ _
  rw [Int.toNat_natCast]
  refine wpAny_bind (dead_load hT ?_)
  simp only [Option.isNone_none, if_true]
  exact wpAny_pure h
theorem free_none {z TI TO : Addr} {f : Bool} {Q : Bool → Shared → Prop} (hz : ZipSt s.heap z TI TO .none f) (h : Q true s) : wpAny (model prog w) A (Builtin.SmallTypes.ownedTupleIsFree (.ref z)) Q E s := by
  unfold Builtin.SmallTypes.ownedTupleIsFree
  exact wpAny_bind (wpAny_field hz rfl (x := .none) rfl (wpAny_pure h))
/-- the item of a zip that may use its tuple -/
theorem zip_item_free {z TI TO i1 i2 l1 l2 : Addr} {k1 k2 : Nat} {xs ys : Array Value} {f0 x y a b : Value} {f : Bool} {Q : Value → Shared → Prop} (D : ZipApart z TI TO i1 i2 l1 l2) (hz : ZipSt s.heap z TI TO f0 f)
    (hfree : ∀ {Q' : Bool → Shared → Prop}, Q' true s → wpAny (model prog w) A (Builtin.SmallTypes.ownedTupleIsFree (.ref z)) Q' E s)
    (hTI : IsPair s.heap TI (.ref i1) (.ref i2)) (hTO : IsPair s.heap TO a b) (h1 : s.heap.IsListIter i1 l1 k1) (h2 : s.heap.IsListIter i2 l2 k2) (hl1 : s.heap.IsList l1 xs) (hl2 : s.heap.IsList l2 ys) (hx : xs[k1]? = some x) (hy : ys[k2]? = some y)
    (hQ : ∀ h', ZipSt h' z TI TO (rawInt s.heap.objs.size) false → IsPair h' TO x y → h'.IsListIter i1 l1 (k1 + 1) → h'.IsListIter i2 l2 (k2 + 1) → IsPair h' s.heap.objs.size x y → h'.objs.size = s.heap.objs.size + 1 →
      (∀ c o, c ≠ z → c ≠ TO → c ≠ i1 → c ≠ i2 → s.heap.get? c = some o → h'.get? c = some o) → Q (.ref s.heap.objs.size) { s with heap := h' }) :
    wpAny (model prog w) A (Builtin.«zip.__next__» ⟨[.ref z], []⟩) (fun fin s' => ∃ v, fin = .done (.ret v) ∧ Q v s') E s := by
  refine (show wpAny (model prog w) A (field (.ref z) 2 >>= _) _ E s from wpAny_bind (wpAny_field hz rfl (x := .bool false) rfl ?_))
  refine (show wpAny (model prog w) A (field (.ref z) 3 >>= _) _ E s from wpAny_bind (wpAny_field hz rfl (x := .ref TI) rfl (wpAny_bind (wpAny_seqItems hTI rfl ?_))))
  refine (show wpAny (model prog w) A (Builtin.SmallTypes.ownedTupleIsFree (.ref z) >>= _) _ E s from wpAny_bind (hfree ?_))
  simp only [if_true]
  refine wpAny_bind (wpAny_rule (wpAny_bind (wpAny_field hz rfl (x := .ref TO) rfl (wpAny_bind (wpAny_setField_rec hz (by simp) fun g1 z1 s1 => ?_)))))
  replace z1 : ZipSt g1 z TI TO .ellipsis f := z1
  refine wpAny_bind ?_
  simp only [List.zipIdx_cons, List.zipIdx_nil, List.forIn_cons, List.forIn_nil]
  have e1 := s1.extBut
  refine wpAny_bind (wpAny_bind (wpAny_onRaise (show wpAny (model prog w) A (Builtin.SmallTypes.nextOf (.ref i1) >>= _) _ _ _ from wpAny_bind (wpAny_nextOf_list_item (h1.extBut e1 D.i1z) (hl1.extBut e1 D.l1z) hx fun g2 n1 s2 => wpAny_pure ?_))))
  have e2 := s2.extBut
  have o2 : IsPair g2 TO a b := e2 _ _ D.TOi1 (e1 _ _ D.TOz hTO)
  refine wpAny_bind (wpAny_seqItems o2 rfl (wpAny_bind (wpAny_updateSeq_pair o2 fun g3 o3 s3 => ?_)))
  replace o3 : IsPair g3 TO x b := o3
  have e3 := s3.extBut
  refine wpAny_bind (wpAny_letGo (wpAny_pure (wpAny_bind (wpAny_bind (wpAny_onRaise ?_)))))
  refine (show wpAny (model prog w) A (Builtin.SmallTypes.nextOf (.ref i2) >>= _) _ _ _ from wpAny_bind (wpAny_nextOf_list_item (((h2.extBut e1 D.i2z).extBut e2 D.i12.symm).extBut e3 D.TOi2.symm) (((hl2.extBut e1 D.l2z).extBut e2 D.l2i1).extBut e3 D.l2TO) hy fun g4 n2 s4 => wpAny_pure ?_))
  have e4 := s4.extBut
  have o4 : IsPair g4 TO x b := e4 _ _ D.TOi2 o3
  refine wpAny_bind (wpAny_seqItems o4 rfl (wpAny_bind (wpAny_updateSeq_pair o4 fun g5 o5 s5 => ?_)))
  replace o5 : IsPair g5 TO x y := o5
  have e5 := s5.extBut
  refine wpAny_bind (wpAny_letGo (wpAny_pure (wpAny_pure (wpAny_bind (wpAny_seqItems o5 rfl (wpAny_bind (wpAny_newTuple ?_)))))))
  have size5 : g5.objs.size = s.heap.objs.size := by rw [s5.1, s4.1, s3.1, s2.1, s1.1]
  have z5 : ZipSt g5 z TI TO .ellipsis f := e5 _ _ D.TOz.symm (e4 _ _ D.i2z.symm (e3 _ _ D.TOz.symm (e2 _ _ D.i1z.symm z1)))
  have keep5 : ∀ c o, c ≠ z → c ≠ TO → c ≠ i1 → c ≠ i2 → s.heap.get? c = some o → g5.get? c = some o := fun c o c1 c2 c3 c4 e => e5 _ _ c2 (e4 _ _ c4 (e3 _ _ c2 (e2 _ _ c3 (e1 _ _ c1 e))))
  have m1 : g5.IsListIter i1 l1 (k1 + 1) := ((n1.extBut e3 D.TOi1.symm).extBut e4 D.i12).extBut e5 D.TOi1.symm
  have m2 : g5.IsListIter i2 l2 (k2 + 1) := n2.extBut e5 D.TOi2.symm
  have zlt : z < g5.objs.size := Heap.lt_size z5
  refine (show wpAny (model prog w) A (Builtin.SmallTypes.ownedTupleHandOut (.ref z) (.ref g5.objs.size) >>= _) _ _ _ from wpAny_bind ?_)
  unfold Builtin.SmallTypes.ownedTupleHandOut
  have z6 : ZipSt (g5.push { cls := .type "tuple", data := .seq #[x, y] }) z TI TO .ellipsis f := Heap.get?_push_of_some _ z5
  refine wpAny_bind (wpAny_setField_rec z6 (by simp) fun g7 z7 s7 => ?_)
  replace z7 : ZipSt g7 z TI TO (rawInt g5.objs.size) f := z7
  refine wpAny_setField_rec z7 (by simp) fun g8 z8 s8 => ?_
  replace z8 : ZipSt g8 z TI TO (rawInt g5.objs.size) false := z8
  have last : ∀ c o, c ≠ z → g5.get? c = some o → g8.get? c = some o := fun c o c1 e => s8.extBut _ _ c1 (s7.extBut _ _ c1 (Heap.get?_push_of_some _ e))
  have t8 : IsPair g8 g5.objs.size x y := s8.extBut _ _ (Nat.ne_of_gt zlt) (s7.extBut _ _ (Nat.ne_of_gt zlt) (Heap.get?_push_size _ rfl))
  have size8 : g8.objs.size = g5.objs.size + 1 := by rw [s8.1, s7.1, Heap.size_push]
  rw [size5] at z8 t8 size8
  refine wpAny_pure ⟨_, rfl, (show Q (.ref g5.objs.size) _ from ?_)⟩
  rw [size5]
  exact hQ g8 z8 (last _ _ D.TOz o5) (m1.at fun o e => last _ o D.i1z e) (m2.at fun o e => last _ o D.i2z e) t8 size8 fun c o c1 c2 c3 c4 e => last c o c1 (keep5 c o c1 c2 c3 c4 e)
end
end HC
/-! HI2: enumerate(zip(xs, ys)), made and turned. -/
namespace HC
open PySem PySem.Spec PyProof.Rows L2
open AutoSeq1 (wpAny_loadPart')
section
variable {prog : Program} {w : World} {A : Around} {E : Value → Shared → Prop} {s : Shared}
/-- the end of a zip that may use its tuple -/
theorem zip_end_free {z TI TO i1 i2 l1 l2 : Addr} {k1 k2 : Nat} {xs ys : Array Value} {f0 a b : Value} {f : Bool} {Q : Fin → Shared → Prop} (hh : A.handled = none) (D : ZipApart z TI TO i1 i2 l1 l2) (hz : ZipSt s.heap z TI TO f0 f)
    (hfree : ∀ {Q' : Bool → Shared → Prop}, Q' true s → wpAny (model prog w) A (Builtin.SmallTypes.ownedTupleIsFree (.ref z)) Q' E s)
    (hTI : IsPair s.heap TI (.ref i1) (.ref i2)) (hTO : IsPair s.heap TO a b) (h1 : s.heap.IsListIter i1 l1 k1) (h2 : s.heap.IsListIter i2 l2 k2) (hl1 : s.heap.IsList l1 xs) (hl2 : s.heap.IsList l2 ys) (hend : xs[k1]? = none ∨ ys[k2]? = none)
    (hE : ∀ h' e, (∀ c o, c ≠ z → c ≠ TO → c ≠ i1 → c ≠ i2 → s.heap.get? c = some o → h'.get? c = some o) → (∃ o, h'.get? e = some o ∧ o.cls = .type "StopIteration") → E (.ref e) { s with heap := h' }) :
    wpAny (model prog w) A (Builtin.«zip.__next__» ⟨[.ref z], []⟩) Q E s := by
  refine (show wpAny (model prog w) A (field (.ref z) 2 >>= _) _ E s from wpAny_bind (wpAny_field hz rfl (x := .bool false) rfl ?_))
  refine (show wpAny (model prog w) A (field (.ref z) 3 >>= _) _ E s from wpAny_bind (wpAny_field hz rfl (x := .ref TI) rfl (wpAny_bind (wpAny_seqItems hTI rfl ?_))))
  refine (show wpAny (model prog w) A (Builtin.SmallTypes.ownedTupleIsFree (.ref z) >>= _) _ E s from wpAny_bind (hfree ?_))
  simp only [if_true]
  refine wpAny_bind (wpAny_rule (wpAny_bind (wpAny_field hz rfl (x := .ref TO) rfl (wpAny_bind (wpAny_setField_rec hz (by simp) fun g1 z1 s1 => ?_)))))
  replace z1 : ZipSt g1 z TI TO .ellipsis f := z1
  refine wpAny_bind ?_
  simp only [List.zipIdx_cons, List.zipIdx_nil, List.forIn_cons, List.forIn_nil]
  have e1 := s1.extBut
  have stopNe : ∀ {g : Heap} {e : Addr} {oe : Obj}, ZipSt g z TI TO .ellipsis f → g.get? e = some oe → oe.cls = .type "StopIteration" → e ≠ z := fun {g e oe} zz ge ce q => by
    rw [q, zz] at ge
    cases ge
    simp at ce
  cases hx : xs[k1]? with
  | none =>
    refine wpAny_bind (wpAny_bind (wpAny_onRaise (show wpAny (model prog w) A (Builtin.SmallTypes.nextOf (.ref i1) >>= _) _ _ _ from wpAny_bind (wpAny_nextOf_list_end hh (h1.extBut e1 D.i1z) (hl1.extBut e1 D.l1z) hx fun g2 e s2 he => ?_))))
    obtain ⟨oe, ge, ce⟩ := he
    have z2 : ZipSt g2 z TI TO .ellipsis f := s2 _ _ D.i1z.symm z1
    refine wpAny_setField_rec z2 (by simp) fun g3 _ s3 => hE g3 e (fun c o c1 _ c3 _ q => s3.extBut _ _ c1 (s2 _ _ c3 (e1 _ _ c1 q))) ⟨oe, s3.extBut _ _ (stopNe z2 ge ce) ge, ce⟩
  | some x =>
    have hy : ys[k2]? = none := hend.elim (fun q => by rw [hx] at q; cases q) fun q => q
    refine wpAny_bind (wpAny_bind (wpAny_onRaise (show wpAny (model prog w) A (Builtin.SmallTypes.nextOf (.ref i1) >>= _) _ _ _ from wpAny_bind (wpAny_nextOf_list_item (h1.extBut e1 D.i1z) (hl1.extBut e1 D.l1z) hx fun g2 n1 s2 => wpAny_pure ?_))))
    have e2 := s2.extBut
    have o2 : IsPair g2 TO a b := e2 _ _ D.TOi1 (e1 _ _ D.TOz hTO)
    refine wpAny_bind (wpAny_seqItems o2 rfl (wpAny_bind (wpAny_updateSeq_pair o2 fun g3 o3 s3 => ?_)))
    have e3 := s3.extBut
    refine wpAny_bind (wpAny_letGo (wpAny_pure (wpAny_bind (wpAny_bind (wpAny_onRaise ?_)))))
    refine (show wpAny (model prog w) A (Builtin.SmallTypes.nextOf (.ref i2) >>= _) _ _ _ from wpAny_bind (wpAny_nextOf_list_end hh (((h2.extBut e1 D.i2z).extBut e2 D.i12.symm).extBut e3 D.TOi2.symm) (((hl2.extBut e1 D.l2z).extBut e2 D.l2i1).extBut e3 D.l2TO) hy fun g4 e s4 he => ?_))
    obtain ⟨oe, ge, ce⟩ := he
    have z4 : ZipSt g4 z TI TO .ellipsis f := s4 _ _ D.i2z.symm (e3 _ _ D.TOz.symm (e2 _ _ D.i1z.symm z1))
    refine wpAny_setField_rec z4 (by simp) fun g5 _ s5 => hE g5 e (fun c o c1 c2 c3 c4 q => s5.extBut _ _ c1 (s4 _ _ c4 (e3 _ _ c2 (e2 _ _ c3 (e1 _ _ c1 q))))) ⟨oe, s5.extBut _ _ (stopNe z4 ge ce) ge, ce⟩
/-- a zip between two turns -/
def ZipOk (h : Heap) (z TI TO : Addr) : Prop := (∃ f0 f, ZipSt h z TI TO f0 f ∧ ((f0 = .none ∧ f = false) ∨ ∃ T : Nat, f0 = rawInt T)) ∧ ∃ a b, IsPair h TO a b
theorem ZipOk.typeIs {z TI TO : Addr} (h : ZipOk s.heap z TI TO) : s.TypeIs (.ref z) "zip" := let ⟨⟨_, _, hz, _⟩, _⟩ := h; ⟨_, hz, rfl⟩
theorem next_zip {z TI TO i1 i2 l1 l2 : Addr} {k1 k2 : Nat} {xs ys : Array Value} {x y : Value} {Q : Value → Shared → Prop} (D : ZipApart z TI TO i1 i2 l1 l2) (hz : ZipOk s.heap z TI TO)
    (hTI : IsPair s.heap TI (.ref i1) (.ref i2)) (h1 : s.heap.IsListIter i1 l1 k1) (h2 : s.heap.IsListIter i2 l2 k2) (hl1 : s.heap.IsList l1 xs) (hl2 : s.heap.IsList l2 ys) (hx : xs[k1]? = some x) (hy : ys[k2]? = some y)
    (hQ : ∀ h', ZipOk h' z TI TO → h'.IsListIter i1 l1 (k1 + 1) → h'.IsListIter i2 l2 (k2 + 1) → IsPair h' s.heap.objs.size x y → h'.objs.size = s.heap.objs.size + 1 →
      (∀ c o, c ≠ z → c ≠ TO → c ≠ i1 → c ≠ i2 → s.heap.get? c = some o → h'.get? c = some o) → Q (.ref s.heap.objs.size) { s with heap := h' }) :
    wpAny (model prog w) A (Builtin.SmallTypes.nextOf (.ref z)) Q E s := by
  have ty := hz.typeIs
  obtain ⟨⟨f0, f, zz, st⟩, a, b, hTO⟩ := hz
  unfold Builtin.SmallTypes.nextOf
  refine wpAny_bind (wpAny_callSpecial?_slot (name := Str.ofString "__next__") ty F.slot_zip_next (wpAny_call_entry F.slot_zip_next ty F.entry_zip_next ?_ (F.args_zip_next_1 _)))
  rcases st with ⟨e0, ef⟩ | ⟨T, e0⟩
  · subst e0 ef
    exact zip_item_free D zz (fun q => free_none zz q) hTI hTO h1 h2 hl1 hl2 hx hy fun h' a1 a2 a3 a4 a5 a6 a7 => wpAny_pure (hQ h' ⟨⟨_, _, a1, .inr ⟨_, rfl⟩⟩, _, _, a2⟩ a3 a4 a5 a6 a7)
  · subst e0
    cases al : s.heap.get? T with
    | none => exact zip_item_free D zz (fun q => free_dead zz al q) hTI hTO h1 h2 hl1 hl2 hx hy fun h' a1 a2 a3 a4 a5 a6 a7 => wpAny_pure (hQ h' ⟨⟨_, _, a1, .inr ⟨_, rfl⟩⟩, _, _, a2⟩ a3 a4 a5 a6 a7)
    | some oT => exact zip_next_item_held D zz al hTI h1 h2 hl1 hl2 hx hy fun h' a1 a3 a4 a5 a6 a7 => wpAny_pure (hQ h' ⟨⟨_, _, a1, .inr ⟨_, rfl⟩⟩, _, _, a7 _ _ D.TOz D.TOi1 D.TOi2 hTO⟩ a3 a4 a5 a6 fun c o c1 _ c3 c4 q => a7 c o c1 c3 c4 q)
theorem end_zip {z TI TO i1 i2 l1 l2 : Addr} {k1 k2 : Nat} {xs ys : Array Value} {Q : Value → Shared → Prop} (hh : A.handled = none) (D : ZipApart z TI TO i1 i2 l1 l2) (hz : ZipOk s.heap z TI TO)
    (hTI : IsPair s.heap TI (.ref i1) (.ref i2)) (h1 : s.heap.IsListIter i1 l1 k1) (h2 : s.heap.IsListIter i2 l2 k2) (hl1 : s.heap.IsList l1 xs) (hl2 : s.heap.IsList l2 ys) (hend : xs[k1]? = none ∨ ys[k2]? = none)
    (hE : ∀ h' e, (∀ c o, c ≠ z → c ≠ TO → c ≠ i1 → c ≠ i2 → s.heap.get? c = some o → h'.get? c = some o) → (∃ o, h'.get? e = some o ∧ o.cls = .type "StopIteration") → E (.ref e) { s with heap := h' }) :
    wpAny (model prog w) A (Builtin.SmallTypes.nextOf (.ref z)) Q E s := by
  have ty := hz.typeIs
  obtain ⟨⟨f0, f, zz, st⟩, a, b, hTO⟩ := hz
  unfold Builtin.SmallTypes.nextOf
  refine wpAny_bind (wpAny_callSpecial?_slot (name := Str.ofString "__next__") ty F.slot_zip_next (wpAny_call_entry F.slot_zip_next ty F.entry_zip_next ?_ (F.args_zip_next_1 _)))
  rcases st with ⟨e0, ef⟩ | ⟨T, e0⟩
  · subst e0 ef
    exact zip_end_free hh D zz (fun q => free_none zz q) hTI hTO h1 h2 hl1 hl2 hend hE
  · subst e0
    cases al : s.heap.get? T with
    | none => exact zip_end_free hh D zz (fun q => free_dead zz al q) hTI hTO h1 h2 hl1 hl2 hend hE
    | some oT => exact zip_next_end_held hh D zz al hTI h1 h2 hl1 hl2 hend fun h' e k => hE h' e fun c o c1 _ c3 c4 q => k c o c1 c3 c4 q
/-- enumerate(z), z a new zip -/
theorem meets_enum_zip (z TI TO : Addr) :
    Meets (Builtin.«enumerate.__new__» ⟨[.type "enumerate", .ref z], []⟩) (fun _ R s => IsZip s.heap z TI TO .none ∧
      R (.ok (.ret (.ref s.heap.objs.size))) { s with heap := s.heap.push { cls := .type "enumerate", data := .fields #[.none, .bool false, .ref z, rawInt 0, .none, .none] } }) :=
  .of_wp fun prog w A R s h => by
    obtain ⟨hp, g, d, tk, os⟩ := s
    obtain ⟨hz, h⟩ := h
    have hsub := sub_enumerate
    have hZ : IsZip (Shared.heap ⟨hp, g, d, tk, os⟩) z TI TO .none := hz
    wp_walk using wpAny_loadPart' hz
    refine wpAny_stack_any fun st => wpAny_pure ?_
    split
    · rename_i c _ _ _ _ _
      cases (c == Value.type "enumerate")
      · wp_walk using wpAny_loadPart' hz, wpAny_pyIter_zip hZ
        exact ⟨_, rfl, h⟩
      · wp_walk using wpAny_loadPart' hz, wpAny_pyIter_zip hZ
        exact ⟨_, rfl, h⟩
    · wp_walk using wpAny_loadPart' hz, wpAny_pyIter_zip hZ
      exact ⟨_, rfl, h⟩
theorem call_enum_zip {z TI TO : Addr} {Q : Value → Shared → Prop} (hz : IsZip s.heap z TI TO .none)
    (h : ∀ h', IsEnum h' s.heap.objs.size z 0 .none → h'.objs.size = s.heap.objs.size + 1 → (∀ b o, s.heap.get? b = some o → h'.get? b = some o) → Q (.ref s.heap.objs.size) { s with heap := h' }) :
    wpAny (model prog w) A (call (.type "enumerate") [.ref z]) Q E s := by
  refine callType_new F.called_enumerate (by decide) (F.typeCall_enumerate_1 _) (F.newCall_enumerate_1 _) (fun obj => F.args_object_init_2 obj _) F.entry_enumerate_new (meets_enum_zip z TI TO) ⟨hz, ?_⟩
  have he : IsEnum (s.heap.push { cls := .type "enumerate", data := .fields #[.none, .bool false, .ref z, rawInt 0, .none, .none] }) s.heap.objs.size z 0 .none := Heap.get?_push_size _ rfl
  exact ⟨⟨_, he, rfl⟩, h _ he (Heap.size_push ..) fun b o x => Heap.get?_push_of_some _ x⟩
end
end HC
/-! HI3: for i, (a, b) in enumerate(zip(xs, ys)). -/
namespace HC
open PySem PySem.Spec PyProof.Rows L2
section
variable {prog : Program} {w : World} {A : Around} {E : Value → Shared → Prop} {s : Shared}
/-- behind an inner item: the rest of enumerate's turn -/
theorem enum_rest {e it : Addr} {i : Int} {x old : Value} {Q : Value → Shared → Prop} {Pz : Heap → Prop} (he : ∀ h1, Pz h1 → IsEnum h1 e it i old)
    (hQ : ∀ h1 h', Pz h1 → IsEnumOut h' e it (i + 1) x h1.objs.size → h'.get? h1.objs.size = some { cls := .type "tuple", data := .seq #[.int i s.toks, x] } → h'.objs.size = h1.objs.size + 1 →
      (∀ b o, b ≠ e → h1.get? b = some o → h'.get? b = some o) → Q (.ref h1.objs.size) { s with heap := h', toks := s.toks + 1 })
    (hin : ∀ {R : Value → Shared → Prop}, (∀ h1, Pz h1 → R x { s with heap := h1 }) → wpAny (model prog w) A (Builtin.SmallTypes.nextOf (.ref it)) R E s) (he0 : IsEnum s.heap e it i old) :
    wpAny (model prog w) A (Builtin.«enumerate.__next__» ⟨[.ref e], []⟩) (fun fin s' => ∃ v, fin = .done (.ret v) ∧ Q v s') E s := by
  obtain ⟨hp, g, d, tk, os⟩ := s
  refine (show wpAny (model prog w) A (field (.ref e) 2 >>= _) _ E _ from wpAny_bind (wpAny_field he0 rfl (x := .ref it) rfl (wpAny_bind (hin fun h1 pz => ?_))))
  have he := he h1 pz
  refine (show wpAny (model prog w) A (field (.ref e) 3 >>= _) _ E ⟨h1, g, d, tk, os⟩ from wpAny_bind (wpAny_field he rfl (x := rawInt i) rfl ?_))
  refine (show wpAny (model prog w) A (field (.ref e) 4 >>= _) _ E ⟨h1, g, d, tk, os⟩ from wpAny_bind (wpAny_field he rfl (x := .none) rfl ?_))
  refine (show wpAny (model prog w) A (mkInt i >>= _) _ E ⟨h1, g, d, tk, os⟩ from wpAny_bind (wpAny_mkInt ?_))
  refine (show wpAny (model prog w) A (setField (.ref e) 3 (rawInt (i + 1)) >>= _) _ E ⟨h1, g, d, tk + 1, os⟩ from wpAny_bind (wpAny_setField_rec he (by simp) fun g2 n2 s2 => ?_))
  replace n2 : IsEnum g2 e it (i + 1) old := n2
  refine (show wpAny (model prog w) A (setField (.ref e) 4 .none >>= _) _ E ⟨g2, g, d, tk + 1, os⟩ from wpAny_bind (wpAny_setField_rec n2 (by simp) fun g3 n3 s3 => ?_))
  replace n3 : IsEnum g3 e it (i + 1) old := n3
  refine (show wpAny (model prog w) A (newTuple [.int i tk, x] >>= _) _ E ⟨g3, g, d, tk + 1, os⟩ from wpAny_bind (wpAny_newTuple ?_))
  have n4 : IsEnum (g3.push { cls := .type "tuple", data := .seq #[.int i tk, x] }) e it (i + 1) old := Heap.get?_push_of_some _ n3
  have sz : g3.objs.size = h1.objs.size := by rw [s3.1, s2.1]
  have t4 : (g3.push { cls := .type "tuple", data := .seq #[.int i tk, x] }).get? h1.objs.size = some { cls := .type "tuple", data := .seq #[.int i tk, x] } := by rw [← sz]; exact Heap.get?_push_size _ rfl
  have sz4 : (g3.push { cls := .type "tuple", data := .seq #[.int i tk, x] }).objs.size = h1.objs.size + 1 := by rw [Heap.size_push, sz]
  have k4 : ∀ b o, b ≠ e → h1.get? b = some o → (g3.push { cls := .type "tuple", data := .seq #[.int i tk, x] }).get? b = some o := fun b o hb q => Heap.get?_push_of_some _ (s3.extBut b o hb (s2.extBut b o hb q))
  have el : h1.objs.size ≠ e := Nat.ne_of_gt (Heap.lt_size he)
  generalize g3.push { cls := .type "tuple", data := .seq #[.int i tk, x] } = g4 at n4 t4 sz4 k4
  refine (show wpAny (model prog w) A (Builtin.SmallTypes.ownedTupleIsFree (.ref e) >>= _) _ E ⟨g4, g, d, tk + 1, os⟩ from ?_)
  rw [sz]
  refine wpAny_bind ?_
  unfold Builtin.SmallTypes.ownedTupleIsFree
  refine wpAny_bind (wpAny_field n4 rfl (x := .none) rfl (wpAny_pure ?_))
  simp only [if_true]
  refine wpAny_bind (wpAny_rule (wpAny_bind (wpAny_field n4 rfl (x := old) rfl (wpAny_bind (wpAny_setField_rec n4 (by simp) fun g5 n5 s5 => ?_)))))
  replace n5 : IsEnum g5 e it (i + 1) x := n5
  refine (show wpAny (model prog w) A (Builtin.SmallTypes.ownedTupleHandOut (.ref e) (.ref h1.objs.size) >>= _) _ E ⟨g5, g, d, tk + 1, os⟩ from wpAny_bind ?_)
  unfold Builtin.SmallTypes.ownedTupleHandOut
  refine wpAny_bind (wpAny_setField_rec n5 (by simp) fun g6 n6 s6 => ?_)
  replace n6 : IsEnumOut g6 e it (i + 1) x h1.objs.size := n6
  refine wpAny_setField_rec n6 (by simp) fun g7 n7 s7 => ?_
  replace n7 : IsEnumOut g7 e it (i + 1) x h1.objs.size := n7
  have k7 : ∀ b o, b ≠ e → g4.get? b = some o → g7.get? b = some o := fun b o hb q => s7.extBut b o hb (s6.extBut b o hb (s5.extBut b o hb q))
  exact wpAny_bind (wpAny_letGo (wpAny_pure ⟨_, rfl, hQ h1 g7 pz n7 (k7 _ _ el t4) (by rw [s7.1, s6.1, s5.1, sz4]) fun b o hb q => k7 b o hb (k4 b o hb q)⟩))
structure EzApart (e z TI TO i1 i2 : Addr) : Prop where
  z : e ≠ z
  TI : e ≠ TI
  TO : e ≠ TO
  i1 : e ≠ i1
  i2 : e ≠ i2
/-- between two turns of enumerate(zip(..)) -/
def EzSt (e z TI TO i1 i2 a b : Addr) (i : Nat) (h : Heap) : Prop := (∃ old, IsEnum h e z ((i : Nat) : Int) old) ∧ ZipOk h z TI TO ∧ IsPair h TI (.ref i1) (.ref i2) ∧ h.IsListIter i1 a i ∧ h.IsListIter i2 b i
theorem ez_item {e z TI TO i1 i2 a b : Addr} {i : Nat} {xs ys : Array Value} {x y : Value} {Q : Option Value → Shared → Prop} (D : ZipApart z TI TO i1 i2 a b) (D2 : EzApart e z TI TO i1 i2) (st : EzSt e z TI TO i1 i2 a b i s.heap)
    (hl1 : s.heap.IsList a xs) (hl2 : s.heap.IsList b ys) (hx : xs[i]? = some x) (hy : ys[i]? = some y)
    (hQ : ∀ h1 h', IsPair h1 s.heap.objs.size x y → h1.objs.size = s.heap.objs.size + 1 → (∀ c o, c ≠ z → c ≠ TO → c ≠ i1 → c ≠ i2 → s.heap.get? c = some o → h1.get? c = some o) →
      IsEnumOut h' e z ((i : Int) + 1) (.ref s.heap.objs.size) (s.heap.objs.size + 1) → ZipOk h' z TI TO → IsPair h' TI (.ref i1) (.ref i2) → h'.IsListIter i1 a (i + 1) → h'.IsListIter i2 b (i + 1) →
      h'.get? (s.heap.objs.size + 1) = some { cls := .type "tuple", data := .seq #[.int i s.toks, .ref s.heap.objs.size] } → h'.objs.size = s.heap.objs.size + 2 →
      (∀ c o, c ≠ e → h1.get? c = some o → h'.get? c = some o) → Q (some (.ref (s.heap.objs.size + 1))) { s with heap := h', toks := s.toks + 1 }) :
    wpAny (model prog w) A (pyNext (.ref e)) Q E s := by
  obtain ⟨⟨old, he⟩, hz, hTI, h1, h2⟩ := st
  have ty : s.TypeIs (.ref e) "enumerate" := ⟨_, he, rfl⟩
  unfold pyNext
  refine wpAny_bind (wpAny_attempt (wpAny_callSpecial?_slot (name := Str.ofString "__next__") ty F.slot_enumerate_next (wpAny_call_entry F.slot_enumerate_next ty F.entry_enumerate_next ?_ (F.args_enumerate_next_1 _))))
  refine enum_rest (x := .ref s.heap.objs.size) (old := old)
    (Pz := fun g => ZipOk g z TI TO ∧ g.IsListIter i1 a (i + 1) ∧ g.IsListIter i2 b (i + 1) ∧ IsPair g s.heap.objs.size x y ∧ g.objs.size = s.heap.objs.size + 1 ∧ ∀ c o, c ≠ z → c ≠ TO → c ≠ i1 → c ≠ i2 → s.heap.get? c = some o → g.get? c = some o)
    (fun g pz => pz.2.2.2.2.2 _ _ D2.z D2.TO D2.i1 D2.i2 he) (fun g h' pz o1 o2 o3 o4 => wpAny_pure ?_) (fun {R} hR => next_zip D hz hTI h1 h2 hl1 hl2 hx hy fun h' a1 a2 a3 a4 a5 a6 => hR h' ⟨a1, a2, a3, a4, a5, a6⟩) he
  obtain ⟨p1, p2, p3, p4, p5, p6⟩ := pz
  rw [p5] at o1 o2 o3
  have zk : ZipOk h' z TI TO := by
    obtain ⟨⟨f0, f, q1, q2⟩, u, v, q3⟩ := p1
    exact ⟨⟨f0, f, o4 _ _ D2.z.symm q1, q2⟩, u, v, o4 _ _ D2.TO.symm q3⟩
  have := hQ g h' p4 p5 p6 o1 zk (o4 _ _ D2.TI.symm (p6 _ _ D.TIz D.TITO D.TIi1 D.TIi2 hTI)) (p2.at fun o q => o4 _ o D2.i1.symm q) (p3.at fun o q => o4 _ o D2.i2.symm q) o2 o3 o4
  rw [p5]
  exact this
theorem ez_end {e z TI TO i1 i2 a b : Addr} {i : Nat} {xs ys : Array Value} {Q : Option Value → Shared → Prop} (hh : A.handled = none) (D : ZipApart z TI TO i1 i2 a b) (st : EzSt e z TI TO i1 i2 a b i s.heap)
    (hl1 : s.heap.IsList a xs) (hl2 : s.heap.IsList b ys) (hend : xs[i]? = none ∨ ys[i]? = none)
    (hQ : ∀ h', (∀ c o, c ≠ z → c ≠ TO → c ≠ i1 → c ≠ i2 → s.heap.get? c = some o → h'.get? c = some o) → Q none { s with heap := h' }) :
    wpAny (model prog w) A (pyNext (.ref e)) Q E s := by
  obtain ⟨⟨old, he⟩, hz, hTI, h1, h2⟩ := st
  have ty : s.TypeIs (.ref e) "enumerate" := ⟨_, he, rfl⟩
  unfold pyNext
  refine wpAny_bind (wpAny_attempt (wpAny_callSpecial?_slot (name := Str.ofString "__next__") ty F.slot_enumerate_next (wpAny_call_entry F.slot_enumerate_next ty F.entry_enumerate_next ?_ (F.args_enumerate_next_1 _))))
  refine (show wpAny (model prog w) _ (field (.ref e) 2 >>= _) _ _ s from wpAny_bind (wpAny_field he rfl (x := .ref z) rfl (wpAny_bind (end_zip hh D hz hTI h1 h2 hl1 hl2 hend fun h' x k hx => ?_))))
  obtain ⟨o, ho, hc⟩ := hx
  exact wpAny_bind (wpAny_isInstance (T := "StopIteration") (b := true) ⟨o, ho, hc⟩ isSubtype_stop (wpAny_pure (hQ h' k)))
end
end HC
/-! HI4: for i, (a, b) in enumerate(zip(xs, ys)), as a rule. -/
namespace HC
open PySem PySem.Spec PyProof.Rows L2
/-- the lists at a and b, items in new pairs, these in new pairs with their place -/
def Itez (K : PySem.W.Frag) (a b : Addr) : It :=
  ⟨fun i H => ∃ (xs ys : List V) (x y : V), SqL K H a xs ∧ SqL K H b ys ∧ xs[i]? = some x ∧ ys[i]? = some y,
    fun i H v H' => ∃ T U x y, v = .ref U ∧ H T = none ∧ H U = none ∧ T ≠ U ∧ H' = upd (upd H T (.tup [x, y])) U (.tup [.int (i : Nat), .ref T]) ∧ (∀ xs, SqL K H a xs → xs[i]? = some x) ∧ ∀ ys, SqL K H b ys → ys[i]? = some y,
    fun i H => ∃ xs ys : List V, SqL K H a xs ∧ SqL K H b ys ∧ (xs.length ≤ i ∨ ys.length ≤ i)⟩
theorem turn_ez {P : Program} {w : World} {K : PySem.W.Frag} {elts : List Expr} {kk : Nat} {tpos : Pos} {a b e z TI TO i1 i2 : Addr} (D : ZipApart z TI TO i1 i2 a b) (D2 : EzApart e z TI TO i1 i2) :
    Turn P w K (.Tuple elts kk tpos) (Itez K a b) [e, z, TI, TO, i1, i2] e (EzSt e z TI TO i1 i2 a b) where
  mem := by simp
  obj := fun i h st c hc => by
    obtain ⟨⟨old, he⟩, ⟨⟨f0, f, hz, _⟩, u, v, hTO⟩, hTI, ⟨o1, g1, _, d1⟩, ⟨o2, g2, _, d2⟩⟩ := st
    simp only [List.mem_cons, List.not_mem_nil, or_false] at hc
    rcases hc with q | q | q | q | q | q
    · rw [q]; exact ⟨_, he, fun v q => nomatch q⟩
    · rw [q]; exact ⟨_, hz, fun v q => nomatch q⟩
    · rw [q]; exact ⟨_, hTI, fun v q => nomatch q⟩
    · rw [q]; exact ⟨_, hTO, fun v q => nomatch q⟩
    · rw [q]; exact ⟨o1, g1, fun v z => by rw [d1] at z; cases z⟩
    · rw [q]; exact ⟨o2, g2, fun v z => by rw [d2] at z; cases z⟩
  keep := fun i h h' st k => by
    obtain ⟨⟨old, he⟩, ⟨⟨f0, f, hz, hf⟩, u, v, hTO⟩, hTI, n1, n2⟩ := st
    exact ⟨⟨old, k e (by simp) _ he⟩, ⟨⟨f0, f, k z (by simp) _ hz, hf⟩, u, v, k TO (by simp) _ hTO⟩, k TI (by simp) _ hTI, n1.at fun o q => k i1 (by simp) o q, n2.at fun o q => k i2 (by simp) o q⟩
  item := by
    intro X hP hw hK hc i pins s σ H E I hf st hg
    subst hP hw hK
    obtain ⟨xs, ys, x, y, qx, qy, hx, hy⟩ := hg
    obtain ⟨its, rv, p, _⟩ := I.list qx
    obtain ⟨its2, rv2, p2, _⟩ := I.list qy
    obtain ⟨u, hu, ru⟩ := rv.get hx
    obtain ⟨u2, hu2, ru2⟩ := rv2.get hy
    have elt : e < s.heap.objs.size := let ⟨⟨_, he⟩, _⟩ := st; Heap.lt_size he
    have fpl : ∀ c ∈ [e, z, TI, TO, i1, i2], c < s.heap.objs.size := fun c hc => by
      obtain ⟨⟨old, he⟩, ⟨⟨f0, f, hz, _⟩, u, v, hTO⟩, hTI, ⟨o1, g1, _⟩, ⟨o2, g2, _⟩⟩ := id st
      simp only [List.mem_cons, List.not_mem_nil, or_false] at hc
      rcases hc with q | q | q | q | q | q
      · rw [q]; exact Heap.lt_size he
      · rw [q]; exact Heap.lt_size hz
      · rw [q]; exact Heap.lt_size hTI
      · rw [q]; exact Heap.lt_size hTO
      · rw [q]; exact Heap.lt_size g1
      · rw [q]; exact Heap.lt_size g2
    refine ez_item D D2 st p.isList p2.isList (x := u) (y := u2) (by simpa using hu) (by simpa using hu2) fun h1 h' a1 a2 a3 b1 b2 b3 b4 b5 b6 b7 b8 => ?_
    have fr1 : H s.heap.objs.size = none := I.hok.fresh (Nat.le_refl _)
    have new1 : ObjOk X.prog X.w (upd H s.heap.objs.size (.tup [x, y])) h1 s.heap.objs.size (.tup [x, y]) := ⟨by show 2 ≤ sizeLine; decide, [u, u2], .cons ru (.cons ru2 .nil), ⟨_, a1, rfl, _, rfl⟩⟩
    have I1 : Inv X pins σ (upd H s.heap.objs.size (.tup [x, y])) { s with heap := h1 } :=
      I.turnedNew (t' := s.toks) (ch := [e, z, TI, TO, i1, i2]) (fun c o hb q => a3 c o (fun q' => hb (by simp [q'])) (fun q' => hb (by simp [q'])) (fun q' => hb (by simp [q'])) (fun q' => hb (by simp [q'])) q) hf (Nat.le_refl _) new1
    refine ⟨_, rfl, wpAny_letOwnedTupleGo_enum (s := { s with heap := h', toks := s.toks + 1 }) b1 fun h'' he' sb => ?_⟩
    have up : ∀ c o, c ≠ e → h'.get? c = some o → h''.get? c = some o := fun c o hc q => (sb.2 c hc).trans q
    have t2 : h''.get? (s.heap.objs.size + 1) = some { cls := .type "tuple", data := .seq #[.int i s.toks, .ref s.heap.objs.size] } := up _ _ (Nat.ne_of_gt (Nat.lt_succ_of_lt elt)) b6
    have new2 : ObjOk X.prog X.w (upd (upd H s.heap.objs.size (.tup [x, y])) (s.heap.objs.size + 1) (.tup [.int (i : Nat), .ref s.heap.objs.size])) h'' (s.heap.objs.size + 1) (.tup [.int (i : Nat), .ref s.heap.objs.size]) :=
      ⟨by show 2 ≤ sizeLine; decide, [.int i s.toks, .ref s.heap.objs.size], .cons ⟨_, rfl⟩ (.cons rfl .nil), ⟨_, t2, rfl, _, rfl⟩⟩
    have hf1 : ∀ c ∈ [e, z, TI, TO, i1, i2], FpOk X pins (upd H s.heap.objs.size (.tup [x, y])) c := fun c hc => ⟨by rw [upd_ne (Nat.ne_of_lt (fpl c hc))]; exact (hf c hc).1, (hf c hc).2⟩
    have I2 : Inv X pins σ (upd (upd H s.heap.objs.size (.tup [x, y])) (s.heap.objs.size + 1) (.tup [.int (i : Nat), .ref s.heap.objs.size])) { s with heap := h'', toks := s.toks + 1 } :=
      I1.turnedNew (t' := s.toks + 1) (ch := [e, z, TI, TO, i1, i2]) (fun c o hb q => up c o (fun q' => hb (by simp [q'])) (b8 c o (fun q' => hb (by simp [q'])) q)) hf1 (by show h1.objs.size ≤ _; rw [a2]; exact Nat.le_refl _) new2
    refine ⟨.ref (s.heap.objs.size + 1), _, I2, rfl, ⟨s.heap.objs.size, s.heap.objs.size + 1, x, y, rfl, fr1, I.hok.fresh (Nat.le_succ _), Nat.ne_of_lt (Nat.lt_succ_self _), rfl, fun l hl => by rw [I.list_inj hl qx]; exact hx, fun l hl => by rw [I.list_inj hl qy]; exact hy⟩, ⟨⟨.ref s.heap.objs.size, ?_⟩, ?_, up _ _ D2.TI.symm b3, b4.at fun o q => up _ o D2.i1.symm q, b5.at fun o q => up _ o D2.i2.symm q⟩, fun c hc => ?_⟩
    · have e1 : ((i + 1 : Nat) : Int) = (i : Int) + 1 := by omega
      rw [e1]; exact he'
    · obtain ⟨⟨f0, f, q1, q2⟩, u, v, q3⟩ := b2
      exact ⟨⟨f0, f, up _ _ D2.z.symm q1, q2⟩, u, v, up _ _ D2.TO.symm q3⟩
    · have hl := fpl c hc
      rw [upd_ne (Nat.ne_of_lt (Nat.lt_succ_of_lt hl)), upd_ne (Nat.ne_of_lt hl)]
      exact (hf c hc).1
  done := by
    intro X hP hw hK hc i pins s σ H E I hf st hg
    subst hP hw hK
    obtain ⟨xs, ys, qx, qy, hend⟩ := hg
    obtain ⟨its, rv, p, _⟩ := I.list qx
    obtain ⟨its2, rv2, p2, _⟩ := I.list qy
    have l1 := rv.length
    have l2 := rv2.length
    have he : its.toArray[i]? = none ∨ its2.toArray[i]? = none := hend.elim (fun q => .inl (by simp; omega)) fun q => .inr (by simp; omega)
    exact ez_end (I.ok.hd hc) D st p.isList p2.isList he fun h' k => ⟨rfl, I.turnedL (t' := s.toks) (ch := [e, z, TI, TO, i1, i2]) (fun c o hb q => k c o (fun q' => hb (by simp [q'])) (fun q' => hb (by simp [q'])) (fun q' => hb (by simp [q'])) (fun q' => hb (by simp [q'])) q) hf⟩
  self := fun A i s Q E st h => let ⟨⟨_, he⟩, _⟩ := st; wpAny_pyIter_enum he h
theorem ez_apart (n : Nat) : EzApart (n + 5) (n + 4) (n + 2) (n + 3) n (n + 1) := ⟨Nat.ne_of_gt (Nat.lt_succ_self _), Nat.ne_of_gt (by show n + 2 < n + 5; omega), Nat.ne_of_gt (by show n + 3 < n + 5; omega), Nat.ne_of_gt (by show n < n + 5; omega), Nat.ne_of_gt (by show n + 1 < n + 5; omega)⟩
def iEnumZip (K : PySem.W.Frag) (ta : TA) : TI := fun σ H R => ta σ H fun vs H1 => ∃ a b xs ys, vs = [.ref a, .ref b] ∧ SqL K H1 a xs ∧ SqL K H1 b ys ∧ R (Itez K a b) H1
theorem pi_enumzip {X : Cx} {e1 e2 : Expr} {ta : TA} {p p' pos pos' tpos : Pos} {elts : List Expr} {kk : Nat} (hg : Gl X "enumerate") (hm : X.mg "enumerate" = none) (hg2 : Gl X "zip") (hm2 : X.mg "zip" = none) (ha : PA X [e1, e2] ta)
    (hs : starEach [e1, e2] X.env = (false, eval e1 X.env) :: starEach [e2] X.env := by rfl) (hpl : (backTo pos' (starEach [e2] X.env)).any (·.1) = false := by rfl)
    (hs0 : starEach [.Call (.Name "zip" p') [e1, e2] [] pos'] X.env = [(false, eval (.Call (.Name "zip" p') [e1, e2] [] pos') X.env)] := by rfl) :
    PI X (.Tuple elts kk tpos) (.Call (.Name "enumerate" p) [.Call (.Name "zip" p') [e1, e2] [] pos'] [] pos) (iEnumZip X.K ta) := by
  refine ⟨fun pins s σ H R I h => ?_⟩
  refine Call_ (ld_blt I hg hm boot_enumerate (PyProof.Rows.callWith_type1 (args_cons (Call_ (ld_blt I hg2 hm2 PyProof.Rows.boot_zip (PyProof.Rows.callWith_type1 (thn (ha.run pos' pins s σ H _ I h) fun us s1 ⟨vs, H1, I1, r1, q1⟩ => ?_) hs hpl))) hs0) hs0))
  obtain ⟨a, b, xs, ys, ex, hqx, hqy, q⟩ := q1
  subst ex
  obtain ⟨u1, u2, rfl, r2, r3⟩ := vals2 r1
  cases r2
  cases r3
  obtain ⟨its, rv, p1, _⟩ := I1.list hqx
  obtain ⟨its2, rv2, p2, _⟩ := I1.list hqy
  have la : a < s1.heap.objs.size := p1.lt
  have lb : b < s1.heap.objs.size := p2.lt
  refine call_zip_2 p1.isList p2.isList fun h' hz hTI hTO n1 n2 hsz hk => args_nil ?_
  refine call_enum_zip (s := { s1 with heap := h' }) hz fun h2 he hsz2 hk2 => wpAny_pyIter_enum he ?_
  have I2 : Inv X pins σ H1 { s1 with heap := h2 } := I1.kept (t' := s1.toks) fun c o q => hk2 c o (hk c o q)
  have hsz' : h'.objs.size = s1.heap.objs.size + 5 := hsz
  have he' : IsEnum h2 (s1.heap.objs.size + 5) (s1.heap.objs.size + 4) 0 .none := by rw [← hsz']; exact he
  show PIE X pins σ _ R (.ref h'.objs.size) { s1 with heap := h2 }
  rw [hsz']
  refine ⟨s1.heap.objs.size + 5, [s1.heap.objs.size + 5, s1.heap.objs.size + 4, s1.heap.objs.size + 2, s1.heap.objs.size + 3, s1.heap.objs.size, s1.heap.objs.size + 1], _, _, H1, rfl, I2, turn_ez (PySem.W.ktu_apart s1.heap.objs.size a b la lb) (ez_apart s1.heap.objs.size), ⟨⟨.none, he'⟩, ⟨⟨.none, false, hk2 _ _ hz, .inl ⟨rfl, rfl⟩⟩, _, _, hk2 _ _ hTO⟩, hk2 _ _ hTI, n1.at fun o q => hk2 _ o q, n2.at fun o q => hk2 _ o q⟩, fun c hcm => ?_, q⟩
  have hle : s1.heap.objs.size ≤ c := by
    simp only [List.mem_cons, List.not_mem_nil, or_false] at hcm
    rcases hcm with z | z | z | z | z | z
    · rw [z]; exact Nat.le_add_right _ _
    · rw [z]; exact Nat.le_add_right _ _
    · rw [z]; exact Nat.le_add_right _ _
    · rw [z]; exact Nat.le_add_right _ _
    · rw [z]; exact Nat.le_refl _
    · rw [z]; exact Nat.le_add_right _ _
  exact I1.fpOk hle (I1.hok.fresh hle)
/-- on data -/
def ezD : Nat → List D → List D → List D
  | n, x :: xs, y :: ys => .tuple [.int n, .tuple [x, y]] :: ezD (n + 1) xs ys
  | _, _, _ => []
theorem ezD_get : ∀ (n : Nat) (xs ys : List D) (i : Nat) (x y : D), xs[i]? = some x → ys[i]? = some y → (ezD n xs ys)[i]? = some (.tuple [.int ((n + i : Nat) : Int), .tuple [x, y]])
  | n, [], ys, i, x, y, h, _ => by simp at h
  | n, _ :: _, [], i, x, y, _, h => by simp at h
  | n, a :: xs, b :: ys, 0, x, y, h1, h2 => by
    simp at h1 h2
    subst h1 h2
    simp [ezD]
  | n, a :: xs, b :: ys, i + 1, x, y, h1, h2 => by
    have := ezD_get (n + 1) xs ys i x y (by simpa using h1) (by simpa using h2)
    rw [show n + 1 + i = n + (i + 1) by omega] at this
    simpa [ezD] using this
theorem ezD_length : ∀ (n : Nat) (xs ys : List D), (ezD n xs ys).length = min xs.length ys.length
  | n, [], ys => by simp [ezD]
  | n, _ :: _, [] => by simp [ezD]
  | n, a :: xs, b :: ys => by
    rw [ezD, List.length_cons, ezD_length (n + 1) xs ys, List.length_cons, List.length_cons]
    omega
section
variable {C : Ct}
theorem yields_ez {M : Addr → Prop} {H : Hp} {a b : Addr} {xs ys : List V} {ds es : List D} (m : ¬ M a) (ea : H a = some (.lst xs)) (p : C.RpA M H xs ds) (m' : ¬ M b) (eb : H b = some (.lst ys)) (p' : C.RpA M H ys es) : Yields C M H (Itez C.K a b) (ezD 0 ds es) := by
  have l1 := HC.RpA.length p
  have l2 := HC.RpA.length p'
  refine ⟨fun i M1 H1 st hi => ?_, fun i M1 H1 x H2 st dm hi ⟨T, U, u, v, ex, hT, hU, ne, e2, f1, f2⟩ => ?_, fun i M1 H1 st hi => ?_⟩
  · rw [ezD_length] at hi
    have h1 : i < xs.length := by omega
    have h2 : i < ys.length := by omega
    exact ⟨xs, ys, xs[i], ys[i], SqL.of (st a _ ea m).1, SqL.of (st b _ eb m').1, List.getElem?_eq_getElem h1, List.getElem?_eq_getElem h2⟩
  · subst ex e2
    have g1 := f1 xs (SqL.of (st a _ ea m).1)
    have g2 := f2 ys (SqL.of (st b _ eb m').1)
    obtain ⟨d, hd, rd⟩ := HC.RpA.getV p g1
    obtain ⟨d', hd', rd'⟩ := HC.RpA.getV p' g2
    have sm1 : Same H1 (upd H1 T (.tup [u, v])) := same_upd hT
    have hU' : (upd H1 T (.tup [u, v])) U = none := by rw [upd_ne (Ne.symm ne)]; exact hU
    have sm2 : Same (upd H1 T (.tup [u, v])) (upd (upd H1 T (.tup [u, v])) U (.tup [.int ((i : Nat) : Int), .ref T])) := same_upd hU'
    have sm := Same.trans sm1 sm2
    refine ⟨_, ezD_get 0 ds es i d d' hd hd', sm, ?_⟩
    rw [Nat.zero_add]
    have mT : ¬ M1 T := fun z => dm T z hT
    have mU : ¬ M1 U := fun z => dm U z hU
    exact .tup mU upd_same (.cons (.int _) (.cons (.tup mT (by rw [upd_ne ne, upd_same]) (.cons ((rd.step st).step (Stp.grow sm)) (.cons ((rd'.step st).step (Stp.grow sm)) .nil))) .nil))
  · rw [ezD_length] at hi
    exact ⟨xs, ys, SqL.of (st a _ ea m).1, SqL.of (st b _ eb m').1, by omega⟩
end
def iEnumZipD (t t' : TP) : TPA := fun r Q E => t r (fun d => t' r (fun d' => match d, d' with
  | .list ds, .list es => Q (ezD 0 ds es)
  | _, _ => False) E) E
section
variable {X : Cx} {C : Ct} {W : XW} {e e2 : Expr} {t t' : TP} {pos pos' : Pos} {k : Nat}
theorem di_enumzip {p p' tpos : Pos} {elts : List Expr} {kk : Nat} (G : Good X C W k) (he : DV X C W e t) (he2 : DV X C W e2 t') (hm : X.mg "enumerate" = none) (hm2 : X.mg "zip" = none) (hg : Gl X "enumerate" := by rfl) (hg2 : Gl X "zip" := by rfl) (hs : starEach [e, e2] X.env = (false, eval e X.env) :: starEach [e2] X.env := by rfl)
    (hs2 : starEach [e2] X.env = (false, eval e2 X.env) :: starEach [] X.env := by rfl) (hpl : (backTo pos' (starEach [e2] X.env)).any (·.1) = false := by rfl)
    (hs0 : starEach [.Call (.Name "zip" p') [e, e2] [] pos'] X.env = [(false, eval (.Call (.Name "zip" p') [e, e2] [] pos') X.env)] := by rfl) :
    DI X C W (.Tuple elts kk tpos) (.Call (.Name "enumerate" p) [.Call (.Name "zip" p') [e, e2] [] pos'] [] pos) (iEnumZipD t t') := by
  have fk := G.fit.k
  refine ⟨(pi_enumzip hg hm hg2 hm2 (pa_cons he.pe (pa_cons he2.pe pa_nil hs2) hs) hs hpl hs0).imp fun σ H R ⟨M, r, E, S, hW, q⟩ => ⟨M, r, E, S, hW, he.mo.imp (fun d z v H1 k1 S1 p1 => ⟨M, r, E, S1, hW.mono k1, he2.mo.imp (fun d' z v' H2 k2 S2 p2 => ?_) (fun _ z => z) z⟩) (fun _ z => z) q⟩, ⟨fun hq he' q => he.mo.imp (fun d z => he2.mo.imp (fun d' z => ?_) he' z) he' q⟩⟩
  · split at z
    · have p1' := S1.rp k2 p1
      cases p1' with
      | @lst a xs _ m ea pa =>
        cases p2 with
        | @lst b ys _ m' eb pb => exact ⟨a, b, xs, ys, rfl, SqL.of ea, SqL.of eb, by rw [fk]; exact z _ H2 (k1.trans k2) S2 (yields_ez m ea pa m' eb pb)⟩
    · exact z.elim
  · split at z
    · exact hq _ z
    · exact z
end
end HC
/-! HN1: defs that return a new list: what they return may be changed by the caller. -/
namespace HC
open PySem PySem.Spec PyProof.Rows L2
def lSpN (K : PySem.W.Frag) (P : Program) (w : World) (sp : SpD) : Sp := fun vs H Q E => ∃ M ds, Dom M H ∧ RpA K P w M H vs ds ∧
  sp ds (fun d => ∀ p H', Same H H' → H p = none → Top K P w (fun a => M a ∨ a = p) H' p d → Q (.ref p) H') fun c => ∀ H', Same H H' → E (.ref c) Option.none H'
structure FnN (P : Program) (w : World) (K : PySem.W.Frag) (mg : Str → Option Value) (base : Heap) (k : Nat) (x : Str) (n : Nat) (sp : SpD) : Prop where
  ex : ∃ (f : Addr) (fd : FuncData) (ps : List Str), FnOk P w K mg base (L2.CX P w) k f fd ps (lSpN K P w sp) ∧ mg x = some (.ref f) ∧ PySem.W.keepIn K (.ref f) = true ∧ Binds K fd ps []
  mo : MonoSp n sp
section
variable {X : Cx} {C : Ct} {W : XW} {e : Expr} {es : List Expr} {u : TPA} {pos p : Pos} {k j n : Nat} {x : Str} {sp : SpD}
theorem dn_call (G : Good X C W k) (F : FnN X.prog X.w X.K X.mg X.base j x n sp) (ha : DAv X C W (e :: es) u) (hj : j ≤ k := by decide) (hg : Gl X x := by rfl) (hdb : (x == ("__debug__" : Str)) = false := by decide)
    (he : starEach (e :: es) X.env = (false, eval e X.env) :: starEach es X.env := by rfl) (hpl : (backTo pos (starEach es X.env)).any (·.1) = false := by rfl) : DN X C W (.Call (.Name x p) (e :: es) [] pos) (wCall sp u) := by
  refine ⟨?_, mono_call ha.mo F.mo⟩
  obtain ⟨f, fd, ps, hF, hm, hk, hb⟩ := F.ex
  refine (pe_callS (E := W) hF (G.room.mono hj) hg hm hk hb G.pass ha.pa hdb he hpl).imp fun σ H Q ⟨M, r, E, S, hW, q⟩ => ⟨M, r, E, S, hW, ha.mo.imp (fun ds _ z vs H1 k1 S1 p1 => ?_) (fun _ z => z) q⟩
  have fit := G.fit
  obtain ⟨K, P, w, T, M0, H0⟩ := C
  obtain ⟨a, b, c⟩ := fit
  cases a; cases b; cases c
  refine ⟨M, ds, S1.dom, p1, F.mo.imp (fun d y p H2 s hp tp => ?_) (fun c y H2 s => hW c H2 (k1.trans (Same.ex s)) (S1.same s) y) z⟩
  have hs : H2 p ≠ none := by cases tp with
    | lst h _ => rw [h]; simp
    | dctK h _ => rw [h]; simp
    | dctN h _ _ => rw [h]; simp
  exact y p H2 (k1.trans (Same.ex s)) (S1.none_of k1 hp) (S1.take hp s hs) tp
end
section
variable {P : Program} {w : World} {K : PySem.W.Frag} {mg : Str → Option Value} {base : Heap}
theorem fn_N {x qual : Str} {st : Stmt} {f : Addr} {fd : FuncData} {N ps : List Str} {k n : Nat} {sp : SpD} {t : TP} {e : Expr} {rp : Pos} (F : Fun K x qual st f fd) (S : FnScope N ps (defScope st)) (mo : MonoSp n sp) (hn : n = ps.length) (hm : mg x = some (.ref f)) (hbi : Binds K fd ps []) (hbody : defBody st = [.Return (some e) rp])
    (hb : ∀ (cdv : Value) (A : Around) (outer : List PySem.Env) (s : Shared) (H : Hp) (E : XK) (C : Ct) (W : XW), Good (cxOf (L2.CX P w) P w K mg base N qual (defScope st) f cdv A outer s H E) C W k →
      Takes (cxOf (L2.CX P w) P w K mg base N qual (defScope st) f cdv A outer s H E) (fun cls d σ H => W σ cls d H) → DN (cxOf (L2.CX P w) P w K mg base N qual (defScope st) f cdv A outer s H E) C W e t)
    (hs : ∀ ds Q E, sp ds Q E → t (startD N.length ds) Q E) : FnN P w K mg base (k + 1) x n sp := by
  refine ⟨⟨f, fd, ps, F.okX S (fun vs H Q E h => ?_) (fun cdv A outer s H vs Q E hr h => ?_), hm, F.kp, hbi⟩, mo⟩
  · obtain ⟨M, ds, _, p, q⟩ := h
    rw [HC.RpA.length p, mo.len q, hn]
  · obtain ⟨M, ds, dm, p, q⟩ := h
    have tk : Takes (cxOf (L2.CX P w) P w K mg base N qual (defScope st) f cdv A outer s H E) (fun cls d _ H => E cls d H) := takes_of rfl rfl rfl rfl
    have D1 := hb cdv A outer s H E ⟨K, P, w, Option.none, M, H⟩ (fun _ cls d H => E cls d H) ⟨⟨rfl, rfl, rfl⟩, rfl, hr, fun σ => passAt tk σ, passes_of rfl, S.nd⟩ tk
    rw [hbody]
    refine ⟨_, pss_one (ps_ret D1.pe), M, startD N.length ds, fun c => ∀ H', Same H H' → E (.ref c) Option.none H', ?_, ?_, D1.mo.imp (fun d z p H' k' hp S' tp => ?_) (fun _ z => z) (hs ds _ _ q)⟩
    · exact start_sim p ⟨Ct.Ex.refl, trivial⟩ (fun _ h => h) dm (fun _ h => h.elim)
    · exact fun c H' k' S' z => z H' (same_of_base S'.base)
    · exact z p H' (same_of_base S'.base) hp tp
end
end HC
/-! HC11: the operators evaluated on data (equations for simp). -/
namespace HC
open PySem PySem.Spec PyProof.Rows L2
section
variable {a b c : Int} {x y : Str} {ds es : List D} {Q : D → Prop} {d e : D}
theorem fAdd_i : fAdd (.int a) (.int b) Q = Q (.int (a + b)) := rfl
theorem fAdd_s : fAdd (.str x) (.str y) Q = (x.length + y.length ≤ sizeLine ∧ Q (.str (x ++ y))) := rfl
theorem fAdd_l : fAdd (.list ds) (.list es) Q = (ds.length + es.length ≤ sizeLine ∧ Q (.list (ds ++ es))) := rfl
theorem fAdd_t : fAdd (.tuple ds) (.tuple es) Q = (ds.length + es.length ≤ sizeLine ∧ Q (.tuple (ds ++ es))) := rfl
theorem fSub_i : fSub (.int a) (.int b) Q = Q (.int (a - b)) := rfl
theorem fMul_i : fMul (.int a) (.int b) Q = (CMul a b ∧ Q (.int (a * b))) := rfl
theorem fMul_l : fMul (.list ds) (.int b) Q = ((-(2 ^ 63) ≤ b ∧ b < 2 ^ 63 ∧ ds.length * b.toNat ≤ sizeLine) ∧ Q (.list (List.replicate b.toNat ds).flatten)) := rfl
theorem fDiv_i : fDiv (.int a) (.int b) Q = (CDiv a b ∧ Q (.int (a / b))) := rfl
theorem fMod_i : fMod (.int a) (.int b) Q = (0 < b ∧ Q (.int (a % b))) := rfl
theorem fLt_i : fLt (.int a) (.int b) Q = Q (.bool (decide (a < b))) := rfl
theorem fLe_i : fLe (.int a) (.int b) Q = Q (.bool (decide (a ≤ b))) := rfl
theorem fGt_i : fGt (.int a) (.int b) Q = Q (.bool (decide (b < a))) := rfl
theorem fGe_i : fGe (.int a) (.int b) Q = Q (.bool (decide (b ≤ a))) := rfl
theorem fIx_l : fIx (.list ds) (.int a) Q = (∃ d, atI ds a = some d ∧ Q d) := rfl
theorem fIx_t : fIx (.tuple ds) (.int a) Q = (∃ d, atI ds a = some d ∧ Q d) := rfl
theorem fIs_b {p q : Bool} : fIs (.bool p) (.bool q) Q = Q (.bool (decide (p = q))) := rfl
theorem fIsN_b {p q : Bool} : fIsN (.bool p) (.bool q) Q = Q (.bool (!decide (p = q))) := rfl
theorem fIs_nn : fIs .none .none Q = Q (.bool true) := rfl
theorem fIs_in : fIs (.int a) .none Q = Q (.bool false) := rfl
theorem fIs_ln : fIs (.list ds) .none Q = Q (.bool false) := rfl
theorem fIs_tn : fIs (.tuple ds) .none Q = Q (.bool false) := rfl
theorem fIsN_nn : fIsN .none .none Q = Q (.bool false) := rfl
theorem fIsN_in : fIsN (.int a) .none Q = Q (.bool true) := rfl
theorem fIsN_ln : fIsN (.list ds) .none Q = Q (.bool true) := rfl
theorem fIsN_tn : fIsN (.tuple ds) .none Q = Q (.bool true) := rfl
theorem fIn_l : fIn d (.list ds) Q = ((d.sh 64 ∧ (D.list ds).sh 64) ∧ Q (.bool (dIn d ds))) := by cases d <;> rfl
theorem fNotIn_l : fNotIn d (.list ds) Q = ((d.sh 64 ∧ (D.list ds).sh 64) ∧ Q (.bool (!dIn d ds))) := by cases d <;> rfl
theorem fIn_t : fIn d (.tuple ds) Q = ((d.flat = true ∧ ds.all D.flat = true) ∧ Q (.bool (dIn d ds))) := by cases d <;> rfl
theorem gMin_2 : gMin [.int a, .int b] Q = Q (.int (if b < a then b else a)) := rfl
theorem gMax_2 : gMax [.int a, .int b] Q = Q (.int (if b > a then b else a)) := rfl
theorem gLen_l : gLen [.list ds] Q = Q (.int ds.length) := rfl
theorem gLen_t : gLen [.tuple ds] Q = Q (.int ds.length) := rfl
theorem gList_l : gList [.list ds] Q = Q (.list ds) := rfl
theorem gList_t : gList [.tuple ds] Q = Q (.list ds) := rfl
theorem gTuple_l : gTuple [.list ds] Q = Q (.tuple ds) := rfl
theorem gTuple_t : gTuple [.tuple ds] Q = Q (.tuple ds) := rfl
theorem fSl_l {lo hi : Option Int} : fSl (.list ds) lo hi Q = Q (.list (cutL ds lo hi)) := rfl
theorem fSl_t {lo hi : Option Int} : fSl (.tuple ds) lo hi Q = Q (.tuple (cutL ds lo hi)) := rfl
theorem sh_int (i : Int) : D.sh 64 (.int i) := ⟨rfl, rfl, Nat.zero_le _⟩
theorem sh_bool (i : Bool) : D.sh 64 (.bool i) := ⟨rfl, rfl, Nat.zero_le _⟩
theorem sh_none : D.sh 64 .none := ⟨rfl, rfl, Nat.zero_le _⟩
theorem sh_str {x : Str} (h : PyData.strOk x = true) : D.sh 64 (.str x) := ⟨rfl, h, Nat.zero_le _⟩
theorem deq_int (a b : Int) : deq (.int a) (.int b) = decide (a = b) := by
  show (a == b) = _
  rw [Bool.beq_eq_decide_eq]
theorem fEq_i : fEq (.int a) (.int b) Q = Q (.bool (decide (a = b))) := by
  unfold fEq
  rw [deq_int]
  exact propext ⟨fun h => h.2, fun h => ⟨⟨sh_int _, sh_int _⟩, h⟩⟩
theorem fNe_i : fNe (.int a) (.int b) Q = Q (.bool (!decide (a = b))) := by
  unfold fNe
  rw [deq_int]
  exact propext ⟨fun h => h.2, fun h => ⟨⟨sh_int _, sh_int _⟩, h⟩⟩
/-! shapes of nested data -/
theorem D.sh.mono {n m : Nat} (h : d.sh n) (hn : n ≤ m) : d.sh m := ⟨h.pl, h.ly, Nat.le_trans h.dp hn⟩
theorem shs_of {n : Nat} : ∀ {ds : List D}, (∀ d ∈ ds, d.sh n) → D.plains ds = true ∧ PyData.canLayAll0 (D.pys ds) = true ∧ PyData.depthAll (D.pys ds) ≤ n
  | [], _ => ⟨rfl, rfl, Nat.zero_le _⟩
  | d :: ds, h => by
    obtain ⟨a1, a2, a3⟩ := h d (by simp)
    obtain ⟨b1, b2, b3⟩ := shs_of (ds := ds) fun x hx => h x (List.mem_cons_of_mem _ hx)
    refine ⟨by show (d.plain && D.plains ds) = true; rw [a1, b1]; rfl, by show (d.py.canLay0 && PyData.canLayAll0 (D.pys ds)) = true; rw [a2, b2]; rfl, ?_⟩
    show max d.py.depth (PyData.depthAll (D.pys ds)) ≤ n
    exact Nat.max_le.mpr ⟨a3, b3⟩
theorem sh_list {n : Nat} (h : ∀ d ∈ ds, d.sh n) : (D.list ds).sh (n + 1) := let ⟨a, b, c⟩ := shs_of h; ⟨a, b, Nat.succ_le_succ c⟩
theorem sh_tuple {n : Nat} (h : ∀ d ∈ ds, d.sh n) : (D.tuple ds).sh (n + 1) := let ⟨a, b, c⟩ := shs_of h; ⟨a, b, Nat.succ_le_succ c⟩
theorem sh_int' (n : Nat) (i : Int) : D.sh n (.int i) := ⟨rfl, rfl, Nat.zero_le _⟩
theorem sh_bool' (n : Nat) (i : Bool) : D.sh n (.bool i) := ⟨rfl, rfl, Nat.zero_le _⟩
theorem sh_none' (n : Nat) : D.sh n .none := ⟨rfl, rfl, Nat.zero_le _⟩
theorem sh_str' (n : Nat) {x : Str} (h : PyData.strOk x = true) : D.sh n (.str x) := ⟨rfl, h, Nat.zero_le _⟩
/-! == of lists, item by item -/
theorem deq_list : deq (.list ds) (.list es) = PyData.eqvAll (D.pys ds) (D.pys es) := rfl
theorem deq_tuple : deq (.tuple ds) (.tuple es) = PyData.eqvAll (D.pys ds) (D.pys es) := rfl
theorem eqvAll_nil : PyData.eqvAll (D.pys []) (D.pys []) = true := rfl
theorem eqvAll_cons : PyData.eqvAll (D.pys (d :: ds)) (D.pys (e :: es)) = (deq d e && PyData.eqvAll (D.pys ds) (D.pys es)) := rfl
/-- equality is decided by the encoded things -/
def Enc {α : Type} (f : α → D) : Prop := ∀ a b, deq (f a) (f b) = true ↔ a = b
theorem eqvAll_map {α : Type} {f : α → D} (h : Enc f) : ∀ (xs ys : List α), PyData.eqvAll (D.pys (xs.map f)) (D.pys (ys.map f)) = true ↔ xs = ys
  | [], [] => by simp [D.pys, PyData.eqvAll]
  | [], y :: ys => by simp [D.pys, PyData.eqvAll]
  | x :: xs, [] => by simp [D.pys, PyData.eqvAll]
  | x :: xs, y :: ys => by
    rw [List.map_cons, List.map_cons, eqvAll_cons, Bool.and_eq_true, h x y, eqvAll_map h xs ys]
    simp
theorem Enc.list {α : Type} {f : α → D} (h : Enc f) : Enc (fun xs : List α => D.list (xs.map f)) := fun a b => by rw [deq_list]; exact eqvAll_map h a b
theorem Enc.tup {α : Type} {f : α → D} (h : Enc f) : Enc (fun xs : List α => D.tuple (xs.map f)) := fun a b => by rw [deq_tuple]; exact eqvAll_map h a b
theorem Enc.deq {α : Type} [DecidableEq α] {f : α → D} (h : Enc f) (a b : α) : HC.deq (f a) (f b) = decide (a = b) := by
  by_cases e : a = b
  · rw [(h a b).mpr e, decide_eq_true e]
  · rw [decide_eq_false e]
    cases q : HC.deq (f a) (f b) with
    | false => rfl
    | true => exact absurd ((h a b).mp q) e
theorem enc_int : Enc D.int := fun a b => by rw [deq_int]; simp
theorem Enc.any {α : Type} [DecidableEq α] {f : α → D} (h : Enc f) (x : α) : ∀ xs : List α, dIn (f x) (xs.map f) = decide (x ∈ xs)
  | [] => rfl
  | y :: ys => by
    show (HC.deq (f y) (f x) || dIn (f x) (ys.map f)) = _
    rw [h.deq y x, h.any x ys]
    by_cases e : y = x
    · subst e; simp
    · have : ¬ x = y := fun z => e z.symm
      simp [e, this]
end
/-- a promise at the very arguments -/
theorem sp_at {α : Type} {enc : α → List D} {pre : α → Prop} {res : α → D} (a : α) {Q : D → Prop} {E : Addr → Prop} {ds : List D} (e : ds = enc a) (p : pre a) (q : Q (res a)) : (fun (ds : List D) (Q : D → Prop) (_ : Addr → Prop) => ∃ a, ds = enc a ∧ pre a ∧ Q (res a)) ds Q E := ⟨a, e, p, q⟩
end HC
/-! HC12: small facts for the end. -/
namespace HC
open PySem PySem.Spec PyProof.Rows L2
theorem boot_len' : bootBuiltins "len" = some (.builtin "len") := by decide +kernel
theorem boot_min' : bootBuiltins "min" = some (.builtin "min") := by decide +kernel
theorem boot_max' : bootBuiltins "max" = some (.builtin "max") := by decide +kernel
theorem boot_sum' : bootBuiltins "sum" = some (.builtin "sum") := by decide +kernel
theorem boot_all' : bootBuiltins "all" = some (.builtin "all") := by decide +kernel
theorem boot_any' : bootBuiltins "any" = some (.builtin "any") := by decide +kernel
theorem boot_abs' : bootBuiltins "abs" = some (.builtin "abs") := by decide +kernel
theorem boot_list' : bootBuiltins "list" = some (.type "list") := by decide +kernel
theorem boot_tuple' : bootBuiltins "tuple" = some (.type "tuple") := by decide +kernel
theorem boot_int' : bootBuiltins "int" = some (.type "int") := by decide +kernel
theorem boot_bool' : bootBuiltins "bool" = some (.type "bool") := by decide +kernel
theorem boot_str' : bootBuiltins "str" = some (.type "str") := by decide +kernel
theorem noCX {P : Program} {w : World} {H : Hp} {s : Shared} {e : Value} {s' : Shared} (h : L2.CX P w [] H s (fun _ _ _ => False) e s') : False := by
  obtain ⟨_, _, _, _, _, _, _, _, _, _, _, _, z⟩ := h
  exact z
def entOf (e : DictEntry) : Option (Str × Int) := match e.key, e.val with
  | .str x _, .int i _ => some (x, i)
  | _, _ => none
theorem ent_of : ∀ {l : List DictEntry} {kvs : List (Str × Int)}, l.map entOf = kvs.map some → Ent l kvs
  | [], [], _ => .nil
  | [], _ :: _, h => by cases h
  | _ :: _, [], h => by cases h
  | e :: r, (x, i) :: kvs, h => by
    have h1 : entOf e :: r.map entOf = some (x, i) :: kvs.map some := h
    injection h1 with h2 h3
    unfold entOf at h2
    split at h2
    · rename_i y t j u q1 q2
      cases h2
      exact .cons q1 q2 (ent_of h3)
    · cases h2
end HC
/-! HS1: rooms, regulators, states as plain data; what the defs compute; their promises. -/
namespace HC
open PySem PySem.Spec PyProof.Rows L2

/-- the program's exceptions -/
structure Xc where
  heatError : Addr
  badRoom : Addr
  badRegulator : Addr
  badWeather : Addr
  badMarks : Addr
  badNumber : Addr
  badText : Addr
  notFound : Addr

/-! ### promises -/
def spOf {α : Type} (enc : α → List D) (pre : α → Prop) (res : α → D) : SpD := fun ds Q _ => ∃ a, ds = enc a ∧ pre a ∧ Q (res a)
def spEx {α : Type} (enc : α → List D) (pre : α → Prop) (res : α → Except Addr D) : SpD := fun ds Q E => ∃ a, ds = enc a ∧ pre a ∧ match res a with
  | .ok d => Q d
  | .error c => E c
def spAny {α : Type} (enc : α → List D) (pre : α → Prop) (R : α → D → Prop) : SpD := fun ds Q _ => ∃ a, ds = enc a ∧ pre a ∧ ∀ d, R a d → Q d
theorem mo_spOf {α : Type} {enc : α → List D} {pre : α → Prop} {res : α → D} {n : Nat} (h : ∀ a, (enc a).length = n) : MonoSp n (spOf enc pre res) := ⟨fun hq _ ⟨a, e, p, q⟩ => ⟨a, e, p, hq _ q⟩, fun ⟨a, e, _⟩ => by rw [e, h]⟩
theorem mo_spEx {α : Type} {enc : α → List D} {pre : α → Prop} {res : α → Except Addr D} {n : Nat} (h : ∀ a, (enc a).length = n) : MonoSp n (spEx enc pre res) := ⟨fun hq he ⟨a, e, p, q⟩ => ⟨a, e, p, by
  cases hr : res a with
  | ok d => rw [hr] at q; exact hq _ q
  | error c => rw [hr] at q; exact he _ q⟩, fun ⟨a, e, _⟩ => by rw [e, h]⟩
theorem mo_spAny {α : Type} {enc : α → List D} {pre : α → Prop} {R : α → D → Prop} {n : Nat} (h : ∀ a, (enc a).length = n) : MonoSp n (spAny enc pre R) := ⟨fun hq _ ⟨a, e, p, q⟩ => ⟨a, e, p, fun d z => hq _ (q d z)⟩, fun ⟨a, e, _⟩ => by rw [e, h]⟩

/-! ### data -/
structure Rm where
  top : Int
  beg : Int
  rise : Int
  deriving DecidableEq
def Rm.enc (r : Rm) : D := .tuple [.int r.top, .int r.beg, .int r.rise]
structure Rm.Ok (r : Rm) : Prop where
  t6 : 6 ≤ r.top
  t10 : r.top ≤ 10
  b0 : 0 ≤ r.beg
  bt : r.beg ≤ r.top
  r4 : 4 ≤ r.rise
  r5 : r.rise ≤ 5
inductive Kd where
  | gap | stay | late | look | lean
  deriving DecidableEq
def Kd.nm : Kd → Str
  | .gap => "gap"
  | .stay => "stay"
  | .late => "late"
  | .look => "look"
  | .lean => "lean"
def Kd.four : Kd → Bool
  | .stay => true
  | .look => true
  | _ => false
structure Rg where
  kd : Kd
  lo : Int
  hi : Int
  tk : Int
  deriving DecidableEq
def Rg.enc (g : Rg) : D := .tuple (.str g.kd.nm :: .int g.lo :: .int g.hi :: if g.kd.four = true then [.int g.tk] else [])
structure Rg.Ok (top : Int) (g : Rg) : Prop where
  l0 : 0 ≤ g.lo
  lh : g.lo < g.hi
  ht : g.hi ≤ top
  k2 : g.kd.four = true → 2 ≤ g.tk
  k3 : g.kd.four = true → g.tk ≤ 3
  k0 : g.kd.four = false → g.tk = 0
abbrev Sta := Int × Int × Int
def encSt (s : Sta) : D := .tuple [.int s.1, .int s.2.1, .int s.2.2]
def encIs (ws : List Int) : D := .list (ws.map D.int)
def encSts (ss : List Sta) : D := .list (ss.map encSt)

/-! ### what a tick does -/
def first (r : Rm) : Sta := (r.beg, 0, 0)
def warm (r : Rm) (heat sw w : Int) : Int := min r.top (max 0 (heat - w + if sw = 1 then r.rise else 0))
def decid (heat lo hi sw : Int) : Int := if heat ≤ lo then 1 else if hi ≤ heat then 0 else sw
def setSw (g : Rg) (before heat sw mem : Int) : Int × Int := match g.kd with
  | .gap => (decid heat g.lo g.hi sw, 0)
  | .late => (decid before g.lo g.hi sw, 0)
  | .lean => let a := decid heat g.lo (g.hi - mem) sw; (a, if a = 1 then min (mem + 1) (g.hi - g.lo - 1) else 0)
  | .stay => if 0 < mem then (sw, mem - 1) else let a := decid heat g.lo g.hi sw; (a, if a ≠ sw then g.tk - 1 else 0)
  | .look => if 0 < mem then (sw, mem - 1) else (decid heat g.lo g.hi sw, g.tk - 1)
def tick (r : Rm) (g : Rg) (s : Sta) (w : Int) : Sta := let h := warm r s.1 s.2.1 w; (h, setSw g s.1 h s.2.1 s.2.2)
def runFrom (r : Rm) (g : Rg) : Sta → List Int → List Sta
  | s, [] => [s]
  | s, w :: ws => s :: runFrom r g (tick r g s w) ws
def along (r : Rm) (g : Rg) (ws : List Int) : List Sta := runFrom r g (first r) ws

def sp_first_state : SpD := spOf (fun r : Rm => [r.enc]) (fun _ => True) (fun r => encSt (first r))
def sp_warmed : SpD := spOf (fun a : Rm × Int × Int × Int => [a.1.enc, .int a.2.1, .int a.2.2.1, .int a.2.2.2]) (fun _ => True) (fun a => .int (warm a.1 a.2.1 a.2.2.1 a.2.2.2))
def sp_decided : SpD := spOf (fun a : Int × Int × Int × Int => [.int a.1, .int a.2.1, .int a.2.2.1, .int a.2.2.2]) (fun _ => True) (fun a => .int (decid a.1 a.2.1 a.2.2.1 a.2.2.2))
def encPr (p : Int × Int) : D := .tuple [.int p.1, .int p.2]
def sp_set_switch : SpD := spOf (fun a : Rg × Int × Int × Int × Int => [a.1.enc, .int a.2.1, .int a.2.2.1, .int a.2.2.2.1, .int a.2.2.2.2]) (fun _ => True) (fun a => encPr (setSw a.1 a.2.1 a.2.2.1 a.2.2.2.1 a.2.2.2.2))
def sp_step : SpD := spOf (fun a : Rm × Rg × Sta × Int => [a.1.enc, a.2.1.enc, encSt a.2.2.1, .int a.2.2.2]) (fun _ => True) (fun a => encSt (tick a.1 a.2.1 a.2.2.1 a.2.2.2))

/-! ### evaluation of the operators on typed data -/
theorem ok_nm (k : Kd) : PyData.strOk k.nm = true := by cases k <;> decide +kernel
theorem deq_nm (k l : Kd) : deq (.str k.nm) (.str l.nm) = decide (k = l) := by cases k <;> cases l <;> decide +kernel
section
variable {Q : D → Prop} {k : Kd} {r : Rm} {g : Rg} {s : Sta}
theorem fEq_nm (l : Kd) : fEq (.str k.nm) (.str l.nm) Q = Q (.bool (decide (k = l))) := by
  unfold fEq
  rw [deq_nm]
  exact propext ⟨fun h => h.2, fun h => ⟨⟨sh_str (ok_nm _), sh_str (ok_nm _)⟩, h⟩⟩
theorem fEq_gap : fEq (.str k.nm) (.str "gap") Q = Q (.bool (decide (k = .gap))) := fEq_nm .gap
theorem fEq_stay : fEq (.str k.nm) (.str "stay") Q = Q (.bool (decide (k = .stay))) := fEq_nm .stay
theorem fEq_late : fEq (.str k.nm) (.str "late") Q = Q (.bool (decide (k = .late))) := fEq_nm .late
theorem fEq_look : fEq (.str k.nm) (.str "look") Q = Q (.bool (decide (k = .look))) := fEq_nm .look
theorem fEq_lean : fEq (.str k.nm) (.str "lean") Q = Q (.bool (decide (k = .lean))) := fEq_nm .lean
theorem ex1 {α : Type} {x : α} {p : α → Prop} : (∃ d, some x = some d ∧ p d) = p x := propext ⟨fun ⟨d, e, h⟩ => by cases e; exact h, fun h => ⟨x, rfl, h⟩⟩
theorem fIx_rm0 : fIx r.enc (.int 0) Q = Q (.int r.top) := ex1
theorem fIx_rm1 : fIx r.enc (.int 1) Q = Q (.int r.beg) := ex1
theorem fIx_rm2 : fIx r.enc (.int 2) Q = Q (.int r.rise) := ex1
theorem fIx_st0 : fIx (encSt s) (.int 0) Q = Q (.int s.1) := ex1
theorem fIx_st1 : fIx (encSt s) (.int 1) Q = Q (.int s.2.1) := ex1
theorem fIx_st2 : fIx (encSt s) (.int 2) Q = Q (.int s.2.2) := ex1
theorem Rg.enc_eq (g : Rg) : g.enc = .tuple (.str g.kd.nm :: .int g.lo :: .int g.hi :: if g.kd.four = true then [.int g.tk] else []) := rfl
theorem fIx_rg0 : fIx g.enc (.int 0) Q = Q (.str g.kd.nm) := by
  rw [Rg.enc_eq]; cases g.kd <;> exact ex1
theorem fIx_rg1 : fIx g.enc (.int 1) Q = Q (.int g.lo) := by
  rw [Rg.enc_eq]; cases g.kd <;> exact ex1
theorem fIx_rg2 : fIx g.enc (.int 2) Q = Q (.int g.hi) := by
  rw [Rg.enc_eq]; cases g.kd <;> exact ex1
theorem fIx_rg3 (h : g.kd.four = true) : fIx g.enc (.int 3) Q = Q (.int g.tk) := by
  rw [Rg.enc_eq, h]; exact ex1
theorem fSl_rg : fSl g.enc none (some 3) Q = Q (.tuple [.str g.kd.nm, .int g.lo, .int g.hi]) := by
  rw [Rg.enc_eq]; cases g.kd <;> rfl
theorem gT_st {h : GDs} {r : Env} : gT h (encSt s) r = h [.int s.1, .int s.2.1, .int s.2.2] r := rfl
theorem gT_pr {h : GDs} {r : Env} {p : Int × Int} : gT h (encPr p) r = h [.int p.1, .int p.2] r := rfl
theorem gT_t {h : GDs} {r : Env} {ds : List D} : gT h (.tuple ds) r = h ds r := rfl
theorem gC_c {g : GD} {h : GDs} {r : Env} {d : D} {ds : List D} : gCons' g h (d :: ds) r = match g d r with
    | some r1 => h ds r1
    | Option.none => Option.none := rfl
theorem gN_c {i : Nat} {r : Env} {d : D} : gN i d r = some (r.set i (.val d)) := rfl
theorem gNil_c {r : Env} : gNil' [] r = some r := rfl
theorem Rm.enc_inj {a b : Rm} (h : a.enc = b.enc) : a = b := by
  cases a; cases b
  simp only [Rm.enc, D.tuple.injEq, List.cons.injEq, D.int.injEq, and_true] at h
  obtain ⟨h1, h2, h3⟩ := h
  subst h1 h2 h3
  rfl
theorem spOf_eq {α : Type} {enc : α → List D} {pre : α → Prop} {res : α → D} (a : α) {E : Addr → Prop} (hi : ∀ b, enc a = enc b → a = b) (hp : pre a) : spOf enc pre res (enc a) Q E = Q (res a) :=
  propext ⟨fun ⟨b, e, _, q⟩ => by rw [hi b e]; exact q, fun q => ⟨a, rfl, hp, q⟩⟩
theorem spEx_eq {α : Type} {enc : α → List D} {pre : α → Prop} {res : α → Except Addr D} (a : α) {E : Addr → Prop} (hi : ∀ b, enc a = enc b → a = b) (hp : pre a) : spEx enc pre res (enc a) Q E = match res a with
    | .ok d => Q d
    | .error c => E c :=
  propext ⟨fun ⟨b, e, _, q⟩ => by rw [hi b e]; exact q, fun q => ⟨a, rfl, hp, q⟩⟩
theorem Rg.enc_inj4 {a b : Rg} (h : a.enc = b.enc) : a.kd = b.kd ∧ a.lo = b.lo ∧ a.hi = b.hi ∧ (a.kd.four = true → a.tk = b.tk) := by
  rw [Rg.enc_eq, Rg.enc_eq] at h
  simp only [D.tuple.injEq, List.cons.injEq, D.str.injEq, D.int.injEq] at h
  obtain ⟨h1, h2, h3, h4⟩ := h
  have hk : a.kd = b.kd := by
    have e : decide (a.kd = b.kd) = true := by rw [← deq_nm, h1, deq_nm]; simp
    exact of_decide_eq_true e
  refine ⟨hk, h2, h3, fun f => ?_⟩
  rw [← hk, if_pos f, if_pos f] at h4
  simpa using h4
theorem encSt_inj {a b : Sta} (h : encSt a = encSt b) : a = b := by
  obtain ⟨a1, a2, a3⟩ := a
  obtain ⟨b1, b2, b3⟩ := b
  simp only [encSt, D.tuple.injEq, List.cons.injEq, D.int.injEq, and_true] at h
  obtain ⟨h1, h2, h3⟩ := h
  subst h1 h2 h3
  rfl
end

/-! ### checks of anything plain -/
def isIntF : D → Int → Int → Bool
  | .int i, lo, hi => decide (lo ≤ i) && decide (i ≤ hi)
  | _, _, _ => false
def roomT : D → D → D → Bool
  | .int t, b, c => isIntF b 0 t && isIntF c 4 5
  | _, _, _ => false
def isRoomF : D → Bool
  | .tuple [a, b, c] => isIntF a 6 10 && roomT a b c
  | _ => false
def isRowF : D → Bool
  | .list ds => decide (ds.length ≤ 60) && ds.all fun d => isIntF d 1 3
  | _ => false
def l_SIZES : List (Str × Int) := [("gap", 3), ("stay", 4), ("late", 3), ("look", 4), ("lean", 3)]
def moreF : List D → Bool
  | [] => true
  | c :: _ => isIntF c 2 3
def forT : Option Int → List D → Int → Bool
  | some n, .int lo :: b :: more, top => decide ((more.length : Int) + 3 = n) && ((decide (0 ≤ lo) && decide (lo ≤ top)) && (isIntF b (lo + 1) top && moreF more))
  | _, _, _ => false
def isForF : D → Int → Bool
  | .tuple (.str k :: rest), top => forT (tabAt l_SIZES k) rest top
  | _, _ => false
def topOf : D → Int
  | .tuple (.int t :: _) => t
  | _ => 0
def rmOf : D → Rm
  | .tuple [.int a, .int b, .int c] => ⟨a, b, c⟩
  | _ => ⟨0, 0, 0⟩
def kdOf (s : Str) : Kd := if s = "gap" then .gap else if s = "stay" then .stay else if s = "late" then .late else if s = "look" then .look else .lean
def rgOf : D → Rg
  | .tuple [.str k, .int a, .int b] => ⟨kdOf k, a, b, 0⟩
  | .tuple [.str k, .int a, .int b, .int c] => ⟨kdOf k, a, b, c⟩
  | _ => ⟨.gap, 0, 0, 0⟩
def isOf : D → List Int
  | .list ds => (dInts ds).getD []
  | _ => []
abbrev Ex := Except Addr D
def exB (c : Addr) (b : Bool) : Ex := if b = true then .ok .none else .error c
def sp_is_int : SpD := spOf (fun a : D × Int × Int => [a.1, .int a.2.1, .int a.2.2]) (fun a => a.1.plain = true) (fun a => .bool (isIntF a.1 a.2.1 a.2.2))
def sp_check_number (x : Xc) : SpD := spEx (fun a : D × Int × Int => [a.1, .int a.2.1, .int a.2.2]) (fun a => a.1.plain = true) (fun a => exB x.badNumber (isIntF a.1 a.2.1 a.2.2))
def sp_check_sight (x : Xc) : SpD := spEx (fun a : D => [a]) (fun a => a.plain = true) (fun a => exB x.badNumber (isIntF a 0 1))
def sp_is_room : SpD := spOf (fun a : D => [a]) (fun a => a.plain = true) (fun a => .bool (isRoomF a))
def sp_check_room (x : Xc) : SpD := spEx (fun a : D => [a]) (fun a => a.plain = true) (fun a => exB x.badRoom (isRoomF a))
def sp_is_weather : SpD := spOf (fun a : D => [a]) (fun a => a.plain = true) (fun a => .bool (isIntF a 1 3))
def sp_check_weather (x : Xc) : SpD := spEx (fun a : D => [a]) (fun a => a.plain = true) (fun a => exB x.badWeather (isIntF a 1 3))
def sp_is_row : SpD := spOf (fun a : D => [a]) (fun a => a.plain = true) (fun a => .bool (isRowF a))
def sp_check_row (x : Xc) : SpD := spEx (fun a : D => [a]) (fun a => a.plain = true) (fun a => exB x.badWeather (isRowF a))
def sp_is_for : SpD := spOf (fun a : D × Int => [a.1, .int a.2]) (fun a => a.1.plain = true) (fun a => .bool (isForF a.1 a.2))
def chkRg (x : Xc) (a b : D) (k : Ex) : Ex := if isRoomF a = true then (if isForF b (topOf a) = true then k else .error x.badRegulator) else .error x.badRoom
def sp_is_regulator (x : Xc) : SpD := spEx (fun a : D × D => [a.1, a.2]) (fun a => a.1.plain = true ∧ a.2.plain = true) (fun a => if isRoomF a.1 = true then .ok (.bool (isForF a.2 (topOf a.1))) else .error x.badRoom)
def sp_check_regulator (x : Xc) : SpD := spEx (fun a : D × D => [a.1, a.2]) (fun a => a.1.plain = true ∧ a.2.plain = true) (fun a => chkRg x a.1 a.2 (.ok .none))
def sp_plain_name (x : Xc) : SpD := spEx (fun a : D => [a]) (fun a => a.plain = true) (fun a => if isForF a 10 = true then .ok (.str (rgOf a).kd.nm) else .error x.badRegulator)

/-! ### running -/
def sp_mark_of : SpD := spOf (fun a : Sta × Int => [encSt a.1, .int a.2]) (fun _ => True) (fun a => if a.2 = 0 then .int a.1.2.1 else encPr (a.1.2.1, a.1.1))
def encMark (sight : Int) (s : Sta) : D := if sight = 0 then .int s.2.1 else encPr (s.2.1, s.1)
def sp_states_of : SpD := spOf (fun a : Rm × Rg × List Int => [a.1.enc, a.2.1.enc, encIs a.2.2]) (fun a => a.2.2.length ≤ 1000) (fun a => encSts (along a.1 a.2.1 a.2.2))
def sp_switches_of : SpD := spOf (fun a : Rm × Rg × List Int => [a.1.enc, a.2.1.enc, encIs a.2.2]) (fun a => a.2.2.length ≤ 1000) (fun a => encIs ((along a.1 a.2.1 a.2.2).tail.map (·.2.1)))
def pl3 (a : D × D × D) : Prop := a.1.plain = true ∧ a.2.1.plain = true ∧ a.2.2.plain = true
def chkRow (x : Xc) (a : D × D × D) (k : Rm → Rg → List Int → Ex) : Ex := chkRg x a.1 a.2.1 (if isRowF a.2.2 = true then k (rmOf a.1) (rgOf a.2.1) (isOf a.2.2) else .error x.badWeather)
def sp_states_along (x : Xc) : SpD := spEx (fun a : D × D × D => [a.1, a.2.1, a.2.2]) pl3 (fun a => chkRow x a fun r g ws => .ok (encSts (along r g ws)))
def sp_run (x : Xc) : SpD := spEx (fun a : D × D × D => [a.1, a.2.1, a.2.2]) pl3 (fun a => chkRow x a fun r g ws => .ok (encIs ((along r g ws).tail.map (·.2.1))))
def sp_marks_of (x : Xc) : SpD := spEx (fun a : D × D × D × D => [a.1, a.2.1, a.2.2.1, a.2.2.2]) (fun a => pl3 (a.1, a.2.1, a.2.2.1) ∧ a.2.2.2.plain = true) (fun a => chkRow x (a.1, a.2.1, a.2.2.1) fun r g ws => if isIntF a.2.2.2 0 1 = true then .ok (.list ((along r g ws).tail.map (encMark (match a.2.2.2 with
  | .int i => i
  | _ => 0)))) else .error x.badNumber)
def sp_heats_of (x : Xc) : SpD := spEx (fun a : D × D × D => [a.1, a.2.1, a.2.2]) pl3 (fun a => chkRow x a fun r g ws => .ok (encIs ((along r g ws).map (·.1))))
def lastSt (r : Rm) (l : List Sta) : Sta := l.getLast?.getD (first r)
def sp_state_after (x : Xc) : SpD := spEx (fun a : D × D × D => [a.1, a.2.1, a.2.2]) pl3 (fun a => chkRow x a fun r g ws => .ok (encSt (lastSt r (along r g ws))))
def clicksOf : List Int → Nat
  | a :: b :: r => (if a = b then 0 else 1) + clicksOf (b :: r)
  | _ => 0
def sp_count_clicks (x : Xc) : SpD := spEx (fun a : D × D × D => [a.1, a.2.1, a.2.2]) pl3 (fun a => chkRow x a fun r g ws => .ok (.int (clicksOf ((along r g ws).map (·.2.1)))))

/-! ### the laws' own helpers -/
def sp__law_draw : SpD := spDraw
def sp__law_pick : SpD := fun ds Q _ => ∃ cs, ds = [.list cs] ∧ 0 < cs.length ∧ cs.length ≤ 1000 ∧ ∀ d, d ∈ cs → Q d
def sp__law_room : SpD := spAny (fun _ : Unit => []) (fun _ => True) (fun _ d => ∃ r : Rm, r.Ok ∧ d = r.enc)
def sp__law_regulator : SpD := spAny (fun r : Rm => [r.enc]) (fun r => r.Ok) (fun r d => ∃ g : Rg, g.Ok r.top ∧ d = g.enc)
def sp__law_row : SpD := spAny (fun n : Int => [.int n]) (fun n => 0 ≤ n ∧ n ≤ 60) (fun n d => ∃ ws : List Int, (∀ w ∈ ws, 1 ≤ w ∧ w ≤ 3) ∧ (ws.length : Int) ≤ n ∧ d = encIs ws)
/-- the law's own tick -/
def setL (g : Rg) (before heat sw mem : Int) : Int × Int :=
  if g.kd.four = true ∧ 0 < mem then (sw, mem - 1) else
  let looked := if g.kd = .late then before else heat
  let bar := if g.kd = .lean then g.hi - mem else g.hi
  let after := if looked ≤ g.lo then 1 else if bar ≤ looked then 0 else sw
  if g.kd = .stay then (after, if after = sw then 0 else g.tk - 1) else
  if g.kd = .look then (after, g.tk - 1) else
  if g.kd = .lean ∧ after = 1 then (1, if mem + 1 < g.hi - g.lo then mem + 1 else mem) else (after, 0)
def warmL (r : Rm) (heat sw w : Int) : Int :=
  let h := if sw = 1 then heat - w + r.rise else heat - w
  let h := if h < 0 then 0 else h
  if r.top < h then r.top else h
def tickL (r : Rm) (g : Rg) (s : Sta) (w : Int) : Sta := let h := warmL r s.1 s.2.1 w; (h, setL g s.1 h s.2.1 s.2.2)
def runL (r : Rm) (g : Rg) : Sta → List Int → List Sta
  | s, [] => [s]
  | s, w :: ws => s :: runL r g (tickL r g s w) ws
def sp__law_set : SpD := spOf (fun a : Rg × Int × Int × Int × Int => [a.1.enc, .int a.2.1, .int a.2.2.1, .int a.2.2.2.1, .int a.2.2.2.2]) (fun _ => True) (fun a => encPr (setL a.1 a.2.1 a.2.2.1 a.2.2.2.1 a.2.2.2.2))
def sp__law_step : SpD := spOf (fun a : Rm × Rg × Sta × Int => [a.1.enc, a.2.1.enc, encSt a.2.2.1, .int a.2.2.2]) (fun _ => True) (fun a => encSt (tickL a.1 a.2.1 a.2.2.1 a.2.2.2))
def sp__law_along : SpD := spOf (fun a : Rm × Rg × List Int => [a.1.enc, a.2.1.enc, encIs a.2.2]) (fun a => a.2.2.length ≤ 1000) (fun a => encSts (runL a.1 a.2.1 (first a.1) a.2.2))
end HC
/-! HD1: denotations, printed by tools/gen.py. -/
namespace HC
open PySem PySem.Spec PyProof.Rows L2
def t_is_int : TSD :=
  sRet (wAnd (wIsi "int" (wPeek 0)) (wAnd (wNot (wIsi "bool" (wPeek 0))) (wChain fLe fLe (wPeek 1) (wPeek 0) (wPeek 2))))
def t_check_number (x : Xc) : TSD :=
  sIf (bNot (bTest (wCall sp_is_int (wCons (wVar 0) (wCons (wVar 1) (wCons (wVar 2) wNil)))))) (sRaise x.badNumber) sNil
def t_check_sight (x : Xc) : TSD :=
  sExpr (wCall (sp_check_number x) (wCons (wVar 0) (wCons (wC (.int 0)) (wCons (wC (.int 1)) wNil))))
def t_is_room : TSD :=
  sSeq (sIf (bOr (bNot (bTest (wIsi "tuple" (wPeek 0)))) (bOr (bTest (wOp2 fNe (wB gLen (wCons (wPeek 0) wNil)) (wC (.int 3)))) (bNot (bTest (wCall sp_is_int (wCons (wOp2 fIx (wPeek 0) (wC (.int 0))) (wCons (wC (.int 6)) (wCons (wC (.int 10)) wNil)))))))) (sRet (wC (.bool false))) sNil)
    (sRet (wAnd (wCall sp_is_int (wCons (wOp2 fIx (wPeek 0) (wC (.int 1))) (wCons (wC (.int 0)) (wCons (wOp2 fIx (wPeek 0) (wC (.int 0))) wNil)))) (wCall sp_is_int (wCons (wOp2 fIx (wPeek 0) (wC (.int 2))) (wCons (wC (.int 4)) (wCons (wC (.int 5)) wNil))))))
def t_check_room (x : Xc) : TSD :=
  sIf (bNot (bTest (wCall sp_is_room (wCons (wVar 0) wNil)))) (sRaise x.badRoom) sNil
def t_is_weather : TSD :=
  sRet (wCall sp_is_int (wCons (wVar 0) (wCons (wC (.int 1)) (wCons (wC (.int 3)) wNil))))
def t_is_row : TSD :=
  sRet (wAnd (wIsi "list" (wPeek 0)) (wAnd (wOp2 fLe (wB gLen (wCons (wPeek 0) wNil)) (wC (.int 60))) (wB gAll (wCons (wComp [1] (iSeq (wVar 0)) (gN 1) bYes (wCall sp_is_weather (wCons (wVar 1) wNil))) wNil))))
def t_check_row (x : Xc) : TSD :=
  sIf (bNot (bTest (wCall sp_is_row (wCons (wVar 0) wNil)))) (sRaise x.badWeather) sNil
def t_is_for : TSD :=
  sSeq (sIf (bOr (bNot (bTest (wIsi "tuple" (wPeek 0)))) (bOr (bTest (wOp2 fEq (wB gLen (wCons (wPeek 0) wNil)) (wC (.int 0)))) (bOr (bNot (bTest (wIsi "str" (wOp2 fIx (wPeek 0) (wC (.int 0)))))) (bTest (wTabIn l_SIZES true (wOp2 fIx (wPeek 0) (wC (.int 0)))))))) (sRet (wC (.bool false))) sNil)
    (sSeq (sIf (bOr (bTest (wOp2 fNe (wB gLen (wCons (wPeek 0) wNil)) (wTabAt l_SIZES (wOp2 fIx (wPeek 0) (wC (.int 0)))))) (bOr (bNot (bTest (wCall sp_is_int (wCons (wOp2 fIx (wPeek 0) (wC (.int 1))) (wCons (wC (.int 0)) (wCons (wVar 1) wNil)))))) (bNot (bTest (wCall sp_is_int (wCons (wOp2 fIx (wPeek 0) (wC (.int 2))) (wCons (wOp2 fAdd (wOp2 fIx (wPeek 0) (wC (.int 1))) (wC (.int 1))) (wCons (wVar 1) wNil)))))))) (sRet (wC (.bool false))) sNil)
    (sRet (wOr (wOp2 fEq (wB gLen (wCons (wPeek 0) wNil)) (wC (.int 3))) (wCall sp_is_int (wCons (wOp2 fIx (wPeek 0) (wC (.int 3))) (wCons (wC (.int 2)) (wCons (wC (.int 3)) wNil)))))))
def t_is_regulator (x : Xc) : TSD :=
  sSeq (sExpr (wCall (sp_check_room x) (wCons (wVar 0) wNil)))
    (sRet (wCall sp_is_for (wCons (wVar 1) (wCons (wOp2 fIx (wPeek 0) (wC (.int 0))) wNil))))
def t_check_regulator (x : Xc) : TSD :=
  sSeq (sExpr (wCall (sp_check_room x) (wCons (wVar 0) wNil)))
    (sIf (bNot (bTest (wCall sp_is_for (wCons (wVar 1) (wCons (wOp2 fIx (wPeek 0) (wC (.int 0))) wNil))))) (sRaise x.badRegulator) sNil)
def t_plain_name (x : Xc) : TSD :=
  sSeq (sIf (bNot (bTest (wCall sp_is_for (wCons (wVar 0) (wCons (wC (.int 10)) wNil))))) (sRaise x.badRegulator) sNil)
    (sRet (wOp2 fIx (wPeek 0) (wC (.int 0))))
def t_first_state : TSD :=
  sRet (wTup (wCons (wOp2 fIx (wPeek 0) (wC (.int 1))) (wCons (wC (.int 0)) (wCons (wC (.int 0)) wNil))))
def t_warmed : TSD :=
  sRet (wB gMin (wCons (wOp2 fIx (wPeek 0) (wC (.int 0))) (wCons (wB gMax (wCons (wC (.int 0)) (wCons (wOp2 fAdd (wOp2 fSub (wPeek 1) (wPeek 3)) (wIf (bTest (wOp2 fEq (wPeek 2) (wC (.int 1)))) (wOp2 fIx (wPeek 0) (wC (.int 2))) (wC (.int 0)))) wNil))) wNil)))
def t_decided : TSD :=
  sSeq (sIf (bTest (wOp2 fLe (wPeek 0) (wPeek 1))) (sRet (wC (.int 1))) sNil)
    (sRet (wIf (bTest (wOp2 fGe (wPeek 0) (wPeek 2))) (wC (.int 0)) (wVar 3)))
def t_set_switch : TSD :=
  sSeq (sUnp (wSl (wPeek 0) wNoPart (wPart (wC (.int 3)))) (gT (gCons' (gN 5) (gCons' (gN 6) (gCons' (gN 7) gNil')))))
    (sSeq (sIf (bTest (wOp2 fEq (wPeek 5) (wC (.str "gap")))) (sRet (wTup (wCons (wCall sp_decided (wCons (wVar 2) (wCons (wVar 6) (wCons (wVar 7) (wCons (wVar 3) wNil))))) (wCons (wC (.int 0)) wNil)))) sNil)
    (sSeq (sIf (bTest (wOp2 fEq (wPeek 5) (wC (.str "late")))) (sRet (wTup (wCons (wCall sp_decided (wCons (wVar 1) (wCons (wVar 6) (wCons (wVar 7) (wCons (wVar 3) wNil))))) (wCons (wC (.int 0)) wNil)))) sNil)
    (sSeq (sIf (bTest (wOp2 fEq (wPeek 5) (wC (.str "lean")))) (sSeq (sAsg 8 (xVal (wCall sp_decided (wCons (wVar 2) (wCons (wVar 6) (wCons (wOp2 fSub (wPeek 7) (wPeek 4)) (wCons (wVar 3) wNil)))))))
    (sRet (wTup (wCons (wVar 8) (wCons (wIf (bTest (wOp2 fEq (wPeek 8) (wC (.int 1)))) (wB gMin (wCons (wOp2 fAdd (wPeek 4) (wC (.int 1))) (wCons (wOp2 fSub (wOp2 fSub (wPeek 7) (wPeek 6)) (wC (.int 1))) wNil))) (wC (.int 0))) wNil))))) sNil)
    (sSeq (sIf (bTest (wOp2 fGt (wPeek 4) (wC (.int 0)))) (sRet (wTup (wCons (wVar 3) (wCons (wOp2 fSub (wPeek 4) (wC (.int 1))) wNil)))) sNil)
    (sSeq (sAsg 8 (xVal (wCall sp_decided (wCons (wVar 2) (wCons (wVar 6) (wCons (wVar 7) (wCons (wVar 3) wNil)))))))
    (sRet (wTup (wCons (wVar 8) (wCons (wIf (bOr (bTest (wOp2 fEq (wPeek 5) (wC (.str "look")))) (bTest (wOp2 fNe (wPeek 8) (wPeek 3)))) (wOp2 fSub (wOp2 fIx (wPeek 0) (wC (.int 3))) (wC (.int 1))) (wC (.int 0))) wNil)))))))))
def t_step : TSD :=
  sSeq (sUnp (wVar 2) (gT (gCons' (gN 4) (gCons' (gN 5) (gCons' (gN 6) gNil')))))
    (sSeq (sAsg 7 (xVal (wCall sp_warmed (wCons (wVar 0) (wCons (wVar 4) (wCons (wVar 5) (wCons (wVar 3) wNil)))))))
    (sRet (wOp2 fAdd (wTup (wCons (wVar 7) wNil)) (wCall sp_set_switch (wCons (wVar 1) (wCons (wVar 4) (wCons (wVar 7) (wCons (wVar 5) (wCons (wVar 6) wNil)))))))))
def t_mark_of : TSD :=
  sRet (wIf (bTest (wOp2 fEq (wPeek 1) (wC (.int 0)))) (wOp2 fIx (wPeek 0) (wC (.int 1))) (wTup (wCons (wOp2 fIx (wPeek 0) (wC (.int 1))) (wCons (wOp2 fIx (wPeek 0) (wC (.int 0))) wNil))))
def t_states_of : TSD :=
  sSeq (sAsg 3 (xOwn (wLst (wCons (wCall sp_first_state (wCons (wVar 0) wNil)) wNil))))
    (sSeq (sFor (iSeq (wVar 2)) (gN 4) (sApp 3 (wCall sp_step (wCons (wVar 0) (wCons (wVar 1) (wCons (wOp2 fIx (wPeek 3) (wNeg (wC (.int 1)))) (wCons (wVar 4) wNil)))))))
    (sFrz 3 (sRet (wVar 3))))
def t_states_along (x : Xc) : TSD :=
  sSeq (sExpr (wCall (sp_check_regulator x) (wCons (wVar 0) (wCons (wVar 1) wNil))))
    (sSeq (sExpr (wCall (sp_check_row x) (wCons (wVar 2) wNil)))
    (sRet (wCall sp_states_of (wCons (wVar 0) (wCons (wVar 1) (wCons (wVar 2) wNil))))))
def t_run (x : Xc) : TSD :=
  sRet (wComp [3] (iSeq (wSl (wCall (sp_states_along x) (wCons (wVar 0) (wCons (wVar 1) (wCons (wVar 2) wNil)))) (wPart (wC (.int 1))) wNoPart)) (gN 3) bYes (wOp2 fIx (wPeek 3) (wC (.int 1))))
def t_marks_of (x : Xc) : TSD :=
  sSeq (sExpr (wCall (sp_check_regulator x) (wCons (wVar 0) (wCons (wVar 1) wNil))))
    (sSeq (sExpr (wCall (sp_check_row x) (wCons (wVar 2) wNil)))
    (sSeq (sExpr (wCall (sp_check_sight x) (wCons (wVar 3) wNil)))
    (sRet (wComp [4] (iSeq (wSl (wCall sp_states_of (wCons (wVar 0) (wCons (wVar 1) (wCons (wVar 2) wNil)))) (wPart (wC (.int 1))) wNoPart)) (gN 4) bYes (wCall sp_mark_of (wCons (wVar 4) (wCons (wVar 3) wNil)))))))
def t_heats_of (x : Xc) : TSD :=
  sRet (wComp [3] (iSeq (wCall (sp_states_along x) (wCons (wVar 0) (wCons (wVar 1) (wCons (wVar 2) wNil))))) (gN 3) bYes (wOp2 fIx (wPeek 3) (wC (.int 0))))
def t_state_after (x : Xc) : TSD :=
  sRet (wOp2 fIx (wCall (sp_states_along x) (wCons (wVar 0) (wCons (wVar 1) (wCons (wVar 2) wNil)))) (wNeg (wC (.int 1))))
def t_count_clicks (x : Xc) : TSD :=
  sSeq (sAsg 3 (xVal (wComp [4] (iSeq (wCall (sp_states_along x) (wCons (wVar 0) (wCons (wVar 1) (wCons (wVar 2) wNil))))) (gN 4) bYes (wOp2 fIx (wPeek 4) (wC (.int 1))))))
    (sRet (wB gLen (wCons (wComp [5, 6] (iZipD (wVar 3) (wSl (wPeek 3) (wPart (wC (.int 1))) wNoPart)) (gT (gCons' (gN 5) (gCons' (gN 6) gNil'))) (bTest (wOp2 fNe (wPeek 5) (wPeek 6))) (wVar 5)) wNil)))
def t__law_pick : TSD :=
  sRet (wOp2 fIx (wPeek 1) (wCallT 0 sp__law_draw (wCons (wB gLen (wCons (wPeek 1) wNil)) wNil)))
def t__law_room : TSD :=
  sSeq (sAsg 1 (xVal (wOp2 fAdd (wC (.int 6)) (wCallT 0 sp__law_draw (wCons (wC (.int 5)) wNil)))))
    (sRet (wTup (wCons (wVar 1) (wCons (wCallT 0 sp__law_draw (wCons (wOp2 fAdd (wPeek 1) (wC (.int 1))) wNil)) (wCons (wOp2 fAdd (wC (.int 4)) (wCallT 0 sp__law_draw (wCons (wC (.int 2)) wNil))) wNil)))))
def t__law_regulator : TSD :=
  sSeq (sAsg 2 (xVal (wCallT 0 sp__law_draw (wCons (wOp2 fIx (wPeek 1) (wC (.int 0))) wNil))))
    (sSeq (sAsg 3 (xVal (wOp2 fAdd (wC (.int 1)) (wCallT 0 sp__law_draw (wCons (wB gMin (wCons (wOp2 fSub (wOp2 fIx (wPeek 1) (wC (.int 0))) (wPeek 2)) (wCons (wCallT 0 sp__law_pick (wCons (wLst (wCons (wC (.int 2)) (wCons (wC (.int 4)) (wCons (wC (.int 10)) wNil)))) wNil)) wNil))) wNil)))))
    (sSeq (sAsg 4 (xVal (wCallT 0 sp__law_pick (wCons (wLst (wCons (wC (.str "gap")) (wCons (wC (.str "stay")) (wCons (wC (.str "late")) (wCons (wC (.str "look")) (wCons (wC (.str "lean")) wNil)))))) wNil))))
    (sSeq (sAsg 5 (xVal (wTup (wCons (wVar 4) (wCons (wVar 2) (wCons (wOp2 fAdd (wPeek 2) (wPeek 3)) wNil))))))
    (sRet (wIf (bTest (wOp2 fIn (wPeek 4) (wTup (wCons (wC (.str "stay")) (wCons (wC (.str "look")) wNil))))) (wOp2 fAdd (wPeek 5) (wTup (wCons (wOp2 fAdd (wC (.int 2)) (wCallT 0 sp__law_draw (wCons (wC (.int 2)) wNil))) wNil))) (wVar 5))))))
def t__law_row : TSD :=
  sSeq (sAsg 2 (xVal (wLst wNil)))
    (sSeq (sAsg 3 (xVal (wCallT 0 sp__law_draw (wCons (wOp2 fAdd (wPeek 1) (wC (.int 1))) wNil))))
    (sSeq (sWhile (bTest (wOp2 fLt (wB gLen (wCons (wPeek 2) wNil)) (wPeek 3))) (sAsg 2 (xVal (wOp2 fAdd (wPeek 2) (wOp2 fMul (wLst (wCons (wOp2 fAdd (wC (.int 1)) (wCallT 0 sp__law_draw (wCons (wC (.int 3)) wNil))) wNil)) (wCallT 0 sp__law_pick (wCons (wLst (wCons (wC (.int 1)) (wCons (wC (.int 1)) (wCons (wC (.int 2)) (wCons (wC (.int 4)) wNil))))) wNil)))))))
    (sRet (wSl (wPeek 2) wNoPart (wPart (wPeek 3))))))
def t__law_set : TSD :=
  sSeq (sPar3 5 6 7 (xCons (xVal (wOp2 fIx (wPeek 0) (wC (.int 0)))) (xCons (xVal (wOp2 fIx (wPeek 0) (wC (.int 1)))) (xCons (xVal (wOp2 fIx (wPeek 0) (wC (.int 2)))) xNil))))
    (sSeq (sIf (bAnd (bTest (wOp2 fIn (wPeek 5) (wTup (wCons (wC (.str "stay")) (wCons (wC (.str "look")) wNil))))) (bTest (wOp2 fGt (wPeek 4) (wC (.int 0))))) (sRet (wTup (wCons (wVar 3) (wCons (wOp2 fSub (wPeek 4) (wC (.int 1))) wNil)))) sNil)
    (sSeq (sAsg 8 (xVal (wIf (bTest (wOp2 fEq (wPeek 5) (wC (.str "late")))) (wVar 1) (wVar 2))))
    (sSeq (sAsg 9 (xVal (wIf (bTest (wOp2 fEq (wPeek 5) (wC (.str "lean")))) (wOp2 fSub (wPeek 7) (wPeek 4)) (wVar 7))))
    (sSeq (sAsg 10 (xVal (wIf (bTest (wOp2 fLe (wPeek 8) (wPeek 6))) (wC (.int 1)) (wIf (bTest (wOp2 fGe (wPeek 8) (wPeek 9))) (wC (.int 0)) (wVar 3)))))
    (sSeq (sIf (bTest (wOp2 fEq (wPeek 5) (wC (.str "stay")))) (sRet (wTup (wCons (wVar 10) (wCons (wIf (bTest (wOp2 fEq (wPeek 10) (wPeek 3))) (wC (.int 0)) (wOp2 fSub (wOp2 fIx (wPeek 0) (wC (.int 3))) (wC (.int 1)))) wNil)))) sNil)
    (sSeq (sIf (bTest (wOp2 fEq (wPeek 5) (wC (.str "look")))) (sRet (wTup (wCons (wVar 10) (wCons (wOp2 fSub (wOp2 fIx (wPeek 0) (wC (.int 3))) (wC (.int 1))) wNil)))) sNil)
    (sSeq (sIf (bAnd (bTest (wOp2 fEq (wPeek 5) (wC (.str "lean")))) (bTest (wOp2 fEq (wPeek 10) (wC (.int 1))))) (sRet (wTup (wCons (wC (.int 1)) (wCons (wIf (bTest (wOp2 fLt (wOp2 fAdd (wPeek 4) (wC (.int 1))) (wOp2 fSub (wPeek 7) (wPeek 6)))) (wOp2 fAdd (wPeek 4) (wC (.int 1))) (wVar 4)) wNil)))) sNil)
    (sRet (wTup (wCons (wVar 10) (wCons (wC (.int 0)) wNil)))))))))))
def t__law_step : TSD :=
  sSeq (sAsg 4 (xVal (wOp2 fSub (wOp2 fIx (wPeek 2) (wC (.int 0))) (wPeek 3))))
    (sSeq (sIf (bTest (wOp2 fEq (wOp2 fIx (wPeek 2) (wC (.int 1))) (wC (.int 1)))) (sAsg 4 (xVal (wOp2 fAdd (wPeek 4) (wOp2 fIx (wPeek 0) (wC (.int 2)))))) sNil)
    (sSeq (sIf (bTest (wOp2 fLt (wPeek 4) (wC (.int 0)))) (sAsg 4 (xVal (wC (.int 0)))) sNil)
    (sSeq (sIf (bTest (wOp2 fGt (wPeek 4) (wOp2 fIx (wPeek 0) (wC (.int 0))))) (sAsg 4 (xVal (wOp2 fIx (wPeek 0) (wC (.int 0))))) sNil)
    (sSeq (sUnp (wCall sp__law_set (wCons (wVar 1) (wCons (wOp2 fIx (wPeek 2) (wC (.int 0))) (wCons (wVar 4) (wCons (wOp2 fIx (wPeek 2) (wC (.int 1))) (wCons (wOp2 fIx (wPeek 2) (wC (.int 2))) wNil)))))) (gT (gCons' (gN 5) (gCons' (gN 6) gNil'))))
    (sRet (wTup (wCons (wVar 4) (wCons (wVar 5) (wCons (wVar 6) wNil)))))))))
def t__law_along : TSD :=
  sSeq (sAsg 3 (xOwn (wLst (wCons (wTup (wCons (wOp2 fIx (wPeek 0) (wC (.int 1))) (wCons (wC (.int 0)) (wCons (wC (.int 0)) wNil)))) wNil))))
    (sSeq (sFor (iSeq (wVar 2)) (gN 4) (sApp 3 (wCall sp__law_step (wCons (wVar 0) (wCons (wVar 1) (wCons (wOp2 fIx (wPeek 3) (wNeg (wC (.int 1)))) (wCons (wVar 4) wNil)))))))
    (sFrz 3 (sRet (wVar 3))))
end HC
/-! HM1: the denotations keep the promises. -/
namespace HC
open PySem PySem.Spec PyProof.Rows L2
local macro_rules | `(tactic| walk_at "ds") => `(tactic| simp only [endD, startD, startT, List.map_cons, List.map_nil, List.length_cons, List.length_nil, List.replicate, List.cons_append, List.nil_append, Nat.reduceSub, Nat.reduceAdd, sSeq, sRet, sIf, sNil, sAsg, sUnp, sExpr, sPar2, sPar3, xCons, xNil, xVal, xOwn, bTest, bNot, bAnd, bOr, wVar, wPeek, slot, wC, wOp2, wB, wCons, wNil, wTup, wLst, wIf, wAnd, wOr, wNot, wNeg, wCall, wCallT, wSl, wPart, wNoPart, List.set, ex1, gT_t, gT_st, gT_pr, gC_c, gN_c, gNil_c, sRaise, wChain, sFrz, frz,
  fAdd_i, fAdd_s, fAdd_l, fAdd_t, fSub_i, fLt_i, fLe_i, fGt_i, fGe_i, fEq_i, fNe_i, fIs_b, fIsN_b, gMin_2, gMax_2, gLen_l, gLen_t, fIx_rm0, fIx_rm1, fIx_rm2, fIx_st0, fIx_st1, fIx_st2, fIx_rg0, fIx_rg1, fIx_rg2, fSl_rg, fEq_gap, fEq_stay, fEq_late, fEq_look, fEq_lean])
section
variable {Q : D → Prop} {E : Addr → Prop}
theorem in_warmed {r : Rm} {a b c : Int} (q : Q (.int (warm r a b c))) : sp_warmed [r.enc, .int a, .int b, .int c] Q E := ⟨(r, a, b, c), rfl, trivial, q⟩
theorem in_decided {r a b c : Int} (q : Q (.int (decid r a b c))) : sp_decided [.int r, .int a, .int b, .int c] Q E := ⟨(r, a, b, c), rfl, trivial, q⟩
theorem in_set_switch {r : Rg} {a b c d : Int} (q : Q (encPr (setSw r a b c d))) : sp_set_switch [r.enc, .int a, .int b, .int c, .int d] Q E := ⟨(r, a, b, c, d), rfl, trivial, q⟩
theorem in_step {r : Rm} {g : Rg} {s : Sta} {w : Int} (q : Q (encSt (tick r g s w))) : sp_step [r.enc, g.enc, encSt s, .int w] Q E := ⟨(r, g, s, w), rfl, trivial, q⟩
theorem in_first {r : Rm} (q : Q (encSt (first r))) : sp_first_state [r.enc] Q E := ⟨r, rfl, trivial, q⟩
theorem sem_first_state : ∀ ds Q E, sp_first_state ds Q E → t_first_state (endD Q E) (startD 1 ds) := by
  rintro _ Q E ⟨rm, rfl, _, q⟩
  unfold t_first_state
  walk_at "ds"
  exact q
theorem sem_warmed : ∀ ds Q E, sp_warmed ds Q E → t_warmed (endD Q E) (startD 4 ds) := by
  rintro _ Q E ⟨⟨rm, h, s, w⟩, rfl, _, q⟩
  have q : Q (.int (warm rm h s w)) := q
  unfold warm at q
  unfold t_warmed
  walk_at "ds"
  by_cases hs : s = 1
  · simp only [hs, decide_true, if_true] at q ⊢
    have e : (if (if h - w + rm.rise > 0 then h - w + rm.rise else 0) < rm.top then if h - w + rm.rise > 0 then h - w + rm.rise else 0 else rm.top) = min rm.top (max 0 (h - w + rm.rise)) := by omega
    rw [e]
    exact q
  · simp only [hs, decide_false, if_false] at q ⊢
    have e : (if (if h - w + 0 > 0 then h - w + 0 else 0) < rm.top then if h - w + 0 > 0 then h - w + 0 else 0 else rm.top) = min rm.top (max 0 (h - w + 0)) := by omega
    simp only [Bool.false_eq_true, if_false]
    rw [e]
    exact q
theorem sem_decided : ∀ ds Q E, sp_decided ds Q E → t_decided (endD Q E) (startD 4 ds) := by
  rintro _ Q E ⟨⟨h, lo, hi, s⟩, rfl, _, q⟩
  have q : Q (.int (decid h lo hi s)) := q
  unfold decid at q
  unfold t_decided
  walk_at "ds"
  simp only [decide_eq_true_eq]
  split
  · simpa [*] using q
  · split
    · simpa [*] using q
    · simpa [*] using q
theorem sem_set_switch : ∀ ds Q E, sp_set_switch ds Q E → t_set_switch (endD Q E) (startD 9 ds) := by
  rintro _ Q E ⟨⟨g, b, h, s, m⟩, rfl, _, q⟩
  have q : Q (encPr (setSw g b h s m)) := q
  unfold setSw at q
  unfold t_set_switch
  walk_at "ds"
  cases hk : g.kd with
  | gap =>
    simp only [hk, reduceCtorEq, decide_true, decide_false, Bool.false_eq_true, if_true, if_false] at q ⊢
    exact in_decided q
  | late =>
    simp only [hk, reduceCtorEq, decide_true, decide_false, Bool.false_eq_true, if_true, if_false] at q ⊢
    exact in_decided q
  | lean =>
    simp only [hk, reduceCtorEq, decide_true, decide_false, Bool.false_eq_true, if_true, if_false] at q ⊢
    refine in_decided ?_
    walk_at "ds"
    simp only [decide_eq_true_eq]
    have e : ∀ z : Int, (if g.hi - g.lo - 1 < z then g.hi - g.lo - 1 else z) = min z (g.hi - g.lo - 1) := fun z => by omega
    rw [e]
    split
    · rename_i hd
      simp only [hd, if_true] at q ⊢
      exact q
    · rename_i hd
      simp only [hd, if_false] at q
      exact q
  | stay =>
    have f : g.kd.four = true := by rw [hk]; rfl
    simp only [hk] at q ⊢
    simp only [reduceCtorEq, decide_false, Bool.false_eq_true, if_false, decide_eq_true_eq]
    split
    · rename_i hm
      simp only [hm, if_true] at q
      exact q
    · rename_i hm
      simp only [hm, if_false] at q
      refine in_decided ?_
      walk_at "ds"
      simp only [fIx_rg3 f, fSub_i, Bool.not_eq_true', decide_eq_false_iff_not]
      split
      · rename_i hd
        simp only [hd, if_true, ne_eq, not_false_eq_true] at q
        exact q
      · rename_i hd
        simp only [hd, if_false, ne_eq] at q
        exact q
  | look =>
    have f : g.kd.four = true := by rw [hk]; rfl
    simp only [hk] at q ⊢
    simp only [reduceCtorEq, decide_false, Bool.false_eq_true, if_false, decide_eq_true_eq]
    split
    · rename_i hm
      simp only [hm, if_true] at q
      exact q
    · rename_i hm
      simp only [hm, if_false] at q
      refine in_decided ?_
      simp only [decide_true, if_true, fIx_rg3 f, fSub_i]
      exact q
theorem sem_step : ∀ ds Q E, sp_step ds Q E → t_step (endD Q E) (startD 8 ds) := by
  rintro _ Q E ⟨⟨rm, g, s, w⟩, rfl, _, q⟩
  unfold t_step
  walk_at "ds"
  refine in_warmed ?_
  refine in_set_switch ?_
  exact ⟨by show 1 + 2 ≤ sizeLine; decide, q⟩
end
end HC
/-! HM2: checks. -/
namespace HC
open PySem PySem.Spec PyProof.Rows L2
local macro_rules | `(tactic| walk_at "ds") => `(tactic| simp only [endD, startD, startT, List.map_cons, List.map_nil, List.length_cons, List.length_nil, List.replicate, List.cons_append, List.nil_append, Nat.reduceSub, Nat.reduceAdd, sSeq, sRet, sIf, sNil, sAsg, sUnp, sExpr, sPar2, sPar3, xCons, xNil, xVal, xOwn, bTest, bNot, bAnd, bOr, wVar, wPeek, slot, wC, wOp2, wB, wCons, wNil, wTup, wLst, wIf, wAnd, wOr, wNot, wNeg, wCall, wCallT, wSl, wPart, wNoPart, List.set, ex1, gT_t, gT_st, gT_pr, gC_c, gN_c, gNil_c, sRaise, wChain, sFrz, frz, wIsi,
  fAdd_i, fAdd_s, fAdd_l, fAdd_t, fSub_i, fLt_i, fLe_i, fGt_i, fGe_i, fEq_i, fNe_i, fIs_b, fIsN_b, gMin_2, gMax_2, gLen_l, gLen_t, fIx_rm0, fIx_rm1, fIx_rm2, fIx_st0, fIx_st1, fIx_st2, fIx_rg0, fIx_rg1, fIx_rg2, fSl_rg, fEq_gap, fEq_stay, fEq_late, fEq_look, fEq_lean])
def isIntD : D → Bool
  | .int _ => true
  | .bool _ => true
  | _ => false
def isBoolD : D → Bool
  | .bool _ => true
  | _ => false
def isStrD : D → Bool
  | .str _ => true
  | _ => false
def isTupD : D → Bool
  | .tuple _ => true
  | _ => false
def isLstD : D → Bool
  | .list _ => true
  | _ => false
theorem isT_int {d : D} (h : d.plain = true) : isT "int" d = some (isIntD d) := by
  cases d <;> first | exact absurd h Bool.false_ne_true | (show kitB _ _ = some _; simp only [isIntD]; decide +kernel)
theorem isT_bool {d : D} (h : d.plain = true) : isT "bool" d = some (isBoolD d) := by
  cases d <;> first | exact absurd h Bool.false_ne_true | (show kitB _ _ = some _; simp only [isBoolD]; decide +kernel)
theorem isT_str {d : D} (h : d.plain = true) : isT "str" d = some (isStrD d) := by
  cases d <;> first | exact absurd h Bool.false_ne_true | (show kitB _ _ = some _; simp only [isStrD]; decide +kernel)
theorem isT_tup {d : D} (h : d.plain = true) : isT "tuple" d = some (isTupD d) := by
  cases d <;> first | exact absurd h Bool.false_ne_true | (show kitB _ _ = some _; simp only [isTupD]; decide +kernel)
theorem isT_lst {d : D} (h : d.plain = true) : isT "list" d = some (isLstD d) := by
  cases d <;> first | exact absurd h Bool.false_ne_true | (show kitB _ _ = some _; simp only [isLstD]; decide +kernel)
section
variable {Q : D → Prop} {E : Addr → Prop}
theorem ite_f {b : Bool} {A B : Prop} (h : b = false) (q : B) : if b = true then A else B := by
  subst h
  exact q
theorem ite_t {b : Bool} {A B : Prop} (h : b = true) (q : A) : if b = true then A else B := by
  subst h
  exact q
theorem in_is_int {d : D} {a b : Int} (h : d.plain = true) (q : Q (.bool (isIntF d a b))) : sp_is_int [d, .int a, .int b] Q E := ⟨(d, a, b), rfl, h, q⟩
theorem sem_is_int : ∀ ds Q E, sp_is_int ds Q E → t_is_int (endD Q E) (startD 3 ds) := by
  rintro _ Q E ⟨⟨d, a, b⟩, rfl, h, q⟩
  replace h : d.plain = true := h
  replace q : Q (.bool (isIntF d a b)) := q
  unfold t_is_int
  walk_at "ds"
  simp only [isT_int h, isT_bool h, ex1]
  cases d <;> first | exact absurd h Bool.false_ne_true | skip
  all_goals simp only [isIntD, isBoolD, isIntF, Bool.not_true, Bool.not_false, Bool.false_eq_true, if_true, if_false, fLe_i, Bool.false_and, Bool.true_and] at q ⊢
  all_goals first | exact q | skip
  rename_i i
  cases h1 : decide (a ≤ i) with
  | true => rw [h1] at q; simpa using q
  | false => rw [h1] at q; simpa using q
theorem exB_b {c : Addr} {b : Bool} (q : match exB c b with
    | .ok d => Q d
    | .error c => E c) : (if (!b) = true then E c else Q .none) := by
  cases b with
  | true => exact q
  | false => exact q
theorem sem_check_number (x : Xc) : ∀ ds Q E, sp_check_number x ds Q E → t_check_number x (endD Q E) (startD 3 ds) := by
  rintro _ Q E ⟨⟨d, a, b⟩, rfl, h, q⟩
  unfold t_check_number
  walk_at "ds"
  exact in_is_int h (exB_b q)
theorem sem_check_sight (x : Xc) : ∀ ds Q E, sp_check_sight x ds Q E → t_check_sight x (endD Q E) (startD 1 ds) := by
  rintro _ Q E ⟨d, rfl, h, q⟩
  unfold t_check_sight
  walk_at "ds"
  exact ⟨(d, 0, 1), rfl, h, by
    show match exB x.badNumber (isIntF d 0 1) with
      | .ok _ => Q .none
      | .error c => E c
    have q : match exB x.badNumber (isIntF d 0 1) with
      | .ok d => Q d
      | .error c => E c := q
    cases hb : isIntF d 0 1 with
    | true => rw [hb] at q; exact q
    | false => rw [hb] at q; exact q⟩
theorem isIntF_int {d : D} {a b : Int} (h : isIntF d a b = true) : ∃ i, d = .int i ∧ a ≤ i ∧ i ≤ b := by
  cases d <;> first | (rename_i i; exact ⟨i, rfl, by simpa [isIntF] using h⟩) | cases h
theorem plain_of {d : D} {ds : List D} (h : D.plains ds = true) (m : d ∈ ds) : d.plain = true := by
  induction ds with
  | nil => cases m
  | cons e es ih =>
    have h' := Bool.and_eq_true_iff.mp (show (e.plain && D.plains es) = true from h)
    rcases List.mem_cons.mp m with rfl | m
    · exact h'.1
    · exact ih h'.2 m
theorem sem_is_room : ∀ ds Q E, sp_is_room ds Q E → t_is_room (endD Q E) (startD 1 ds) := by
  rintro _ Q E ⟨d, rfl, h, q⟩
  replace h : d.plain = true := h
  replace q : Q (.bool (isRoomF d)) := q
  unfold t_is_room
  walk_at "ds"
  simp only [isT_tup h, ex1]
  cases d <;> first | exact absurd h Bool.false_ne_true | skip
  all_goals simp only [isTupD, Bool.not_true, Bool.not_false, Bool.false_eq_true, if_true, if_false] at q ⊢
  all_goals first | exact q | skip
  rename_i ds
  simp only [gLen_t, fNe_i]
  have hp : D.plains ds = true := h
  match ds, hp, q with
  | [a, b, c], hp, q =>
    have q : Q (.bool (isIntF a 6 10 && roomT a b c)) := q
    have pa := plain_of hp (d := a) (by simp)
    have pb := plain_of hp (d := b) (by simp)
    have pc := plain_of hp (d := c) (by simp)
    simp only [List.length_cons, List.length_nil, fIx_t]
    refine ite_f (by show (!decide (((0 + 1 + 1 + 1 : Nat) : Int) = 3)) = false; decide) ?_
    refine ⟨a, rfl, in_is_int pa ?_⟩
    cases ha : isIntF a 6 10 with
    | false =>
      rw [ha] at q
      exact q
    | true =>
      obtain ⟨i, rfl, _, _⟩ := isIntF_int ha
      have q : Q (.bool (isIntF (.int i) 6 10 && (isIntF b 0 i && isIntF c 4 5))) := q
      rw [ha, Bool.true_and] at q
      refine ⟨b, rfl, .int i, rfl, in_is_int pb ?_⟩
      cases hb : isIntF b 0 i with
      | false =>
        rw [hb] at q
        exact q
      | true =>
        rw [hb] at q
        exact ⟨c, rfl, in_is_int pc q⟩
  | [], _, q => exact q
  | [a], _, q => exact q
  | [a, b], _, q => exact q
  | a :: b :: c :: d :: r, _, q =>
    have n3 : (!decide (((a :: b :: c :: d :: r).length : Int) = 3)) = true := by
      simp only [List.length_cons]
      simp
      omega
    exact ite_t n3 q
theorem in_is_room {d : D} (h : d.plain = true) (q : Q (.bool (isRoomF d))) : sp_is_room [d] Q E := ⟨d, rfl, h, q⟩
theorem sem_check_room (x : Xc) : ∀ ds Q E, sp_check_room x ds Q E → t_check_room x (endD Q E) (startD 1 ds) := by
  rintro _ Q E ⟨d, rfl, h, q⟩
  unfold t_check_room
  walk_at "ds"
  exact in_is_room h (exB_b q)
theorem sem_is_weather : ∀ ds Q E, sp_is_weather ds Q E → t_is_weather (endD Q E) (startD 1 ds) := by
  rintro _ Q E ⟨d, rfl, h, q⟩
  unfold t_is_weather
  walk_at "ds"
  exact in_is_int h q
theorem in_is_weather {d : D} (h : d.plain = true) (q : Q (.bool (isIntF d 1 3))) : sp_is_weather [d] Q E := ⟨d, rfl, h, q⟩
/-- a comprehension without a test, whose element is a function -/
theorem comp_map {g : GD} {te : TP} {r : Env} {Q : List D → Prop} (f : D → D) : ∀ (ds : List D), (∀ d ∈ ds, ∃ r1, g d r = some r1 ∧ ∀ Q' : D → Prop, Q' (f d) → te r1 Q' E0') → Q (ds.map f) → compW g bYes te r ds Q
  | [], _, q => q
  | d :: ds, h, q => by
    obtain ⟨r1, e1, hr⟩ := h d (by simp)
    exact ⟨r1, e1, hr _ (comp_map (Q := fun ys => Q (f d :: ys)) f ds (fun x hx => h x (List.mem_cons_of_mem _ hx)) q)⟩
theorem sem_is_row : ∀ ds Q E, sp_is_row ds Q E → t_is_row (endD Q E) (startD 2 ds) := by
  rintro _ Q E ⟨d, rfl, h, q⟩
  replace h : d.plain = true := h
  replace q : Q (.bool (isRowF d)) := q
  unfold t_is_row
  walk_at "ds"
  simp only [isT_lst h, ex1]
  cases d <;> first | exact absurd h Bool.false_ne_true | skip
  all_goals simp only [isLstD, isRowF, Bool.not_true, Bool.not_false, Bool.false_eq_true, if_true, if_false] at q ⊢
  all_goals first | exact q | skip
  rename_i ds
  simp only [gLen_l, fLe_i]
  have hc : decide ((ds.length : Int) ≤ 60) = decide (ds.length ≤ 60) := by
    rw [decide_eq_decide]; omega
  rw [hc]
  cases hl : decide (ds.length ≤ 60) with
  | false => rw [hl] at q; exact q
  | true =>
    rw [hl] at q
    simp only [if_true]
    have hl' : ds.length ≤ 60 := of_decide_eq_true hl
    refine ⟨le1000 (by omega), ?_⟩
    refine comp_map (fun d => .bool (isIntF d 1 3)) ds (fun d hd => ⟨_, rfl, fun Q' q' => ?_⟩) ?_
    · exact in_is_weather (E := E0') (plain_of h hd) q'
    · refine ⟨ds.map fun d => isIntF d 1 3, ?_, ?_⟩
      · have := bools_map (ds.map fun d => isIntF d 1 3)
        rw [List.map_map] at this
        exact this
      · rw [List.all_map]
        exact q
end
end HC
/-! HM3: regulators, running. -/
namespace HC
open PySem PySem.Spec PyProof.Rows L2
local macro_rules | `(tactic| walk_at "ds") => `(tactic| simp only [endD, startD, startT, List.map_cons, List.map_nil, List.length_cons, List.length_nil, List.replicate, List.cons_append, List.nil_append, Nat.reduceSub, Nat.reduceAdd, sSeq, sRet, sIf, sNil, sAsg, sUnp, sExpr, sPar2, sPar3, xCons, xNil, xVal, xOwn, bTest, bNot, bAnd, bOr, wVar, wPeek, slot, wC, wOp2, wB, wCons, wNil, wTup, wLst, wIf, wAnd, wOr, wNot, wNeg, wCall, wCallT, wSl, wPart, wNoPart, List.set, ex1, gT_t, gT_st, gT_pr, gC_c, gN_c, gNil_c, sRaise, wChain, sFrz, frz, wIsi, wTabIn, wTabAt,
  fAdd_i, fAdd_s, fAdd_l, fAdd_t, fSub_i, fLt_i, fLe_i, fGt_i, fGe_i, fEq_i, fNe_i, fIs_b, fIsN_b, gMin_2, gMax_2, gLen_l, gLen_t, fIx_rm0, fIx_rm1, fIx_rm2, fIx_st0, fIx_st1, fIx_st2, fIx_rg0, fIx_rg1, fIx_rg2, fSl_rg, fEq_gap, fEq_stay, fEq_late, fEq_look, fEq_lean])
section
variable {Q : D → Prop} {E : Addr → Prop}
theorem in_is_row {d : D} (h : d.plain = true) (q : Q (.bool (isRowF d))) : sp_is_row [d] Q E := ⟨d, rfl, h, q⟩
theorem sem_check_row (x : Xc) : ∀ ds Q E, sp_check_row x ds Q E → t_check_row x (endD Q E) (startD 1 ds) := by
  rintro _ Q E ⟨d, rfl, h, q⟩
  unfold t_check_row
  walk_at "ds"
  exact in_is_row h (exB_b q)
theorem tab_len {k : Str} {n : Int} (h : tabAt l_SIZES k = some n) : n = 3 ∨ n = 4 := by
  unfold l_SIZES at h
  simp only [tabAt] at h
  repeat (split at h; · (cases h; first | exact .inl rfl | exact .inr rfl))
  cases h
theorem sem_is_for : ∀ ds Q E, sp_is_for ds Q E → t_is_for (endD Q E) (startD 2 ds) := by
  rintro _ Q E ⟨⟨d, top⟩, rfl, h, q⟩
  replace h : d.plain = true := h
  replace q : Q (.bool (isForF d top)) := q
  unfold t_is_for
  walk_at "ds"
  simp only [isT_tup h, ex1]
  cases d <;> first | exact absurd h Bool.false_ne_true | skip
  all_goals simp only [isTupD, Bool.not_true, Bool.not_false, Bool.false_eq_true, if_true, if_false]
  all_goals first | exact q | skip
  rename_i ds
  have hp : D.plains ds = true := h
  simp only [gLen_t, fEq_i, fNe_i, fIx_t]
  match ds, hp, q with
  | [], _, q => exact q
  | a :: rest, hp, q =>
    have pa := plain_of hp (d := a) (by simp)
    refine ite_f (by simp; omega) ?_
    simp only [show atI (a :: rest) 0 = some a from atI_nat (j := 0) rfl, ex1, isT_str pa]
    cases a <;> first | exact absurd pa Bool.false_ne_true | skip
    all_goals simp only [isStrD, Bool.not_true, Bool.not_false, Bool.false_eq_true, if_true, if_false]
    all_goals first | exact q | skip
    rename_i k
    replace q : Q (.bool (forT (tabAt l_SIZES k) rest top)) := q
    cases ht : tabAt l_SIZES k with
    | none =>
      rw [ht] at q
      exact q
    | some n =>
      rw [ht] at q
      simp only [Option.isSome_some, Bool.not_true, Bool.false_eq_true, if_false, ex1] at q ⊢
      by_cases hl : (rest.length : Int) + 1 = n
      · refine ite_f (by simp only [List.length_cons]; simp; omega) ?_
        have n34 := tab_len ht
        match rest, hp, hl, q with
        | [], _, hl, _ => simp at hl; omega
        | [b], _, hl, _ => simp at hl; omega
        | b :: c :: more, hp, hl, q =>
          have pb := plain_of hp (d := b) (by simp)
          have pc := plain_of hp (d := c) (by simp)
          simp only [show atI (D.str k :: b :: c :: more) 1 = some b from atI_nat (j := 1) rfl, show atI (D.str k :: b :: c :: more) 2 = some c from atI_nat (j := 2) rfl, ex1]
          refine in_is_int pb ?_
          cases b <;> first | exact absurd pb Bool.false_ne_true | skip
          all_goals simp only [isIntF, Bool.not_false, if_true]
          all_goals first | exact q | skip
          rename_i lo
          have hl2 : decide ((more.length : Int) + 3 = n) = true := by
            simp only [List.length_cons] at hl
            simp
            omega
          replace q : Q (.bool (decide ((more.length : Int) + 3 = n) && ((decide (0 ≤ lo) && decide (lo ≤ top)) && (isIntF c (lo + 1) top && moreF more)))) := q
          rw [hl2, Bool.true_and] at q
          rcases Bool.eq_false_or_eq_true (decide (0 ≤ lo) && decide (lo ≤ top)) with h1 | h1
          case inr =>
            rw [h1, Bool.false_and] at q
            exact ite_t (by rw [h1]; rfl) q
          case inl =>
            rw [h1, Bool.true_and] at q
            refine ite_f (by rw [h1]; rfl) ?_
            simp only [Bool.not_true, Bool.false_eq_true, if_false, fAdd_i]
            refine in_is_int pc ?_
            cases h2 : isIntF c (lo + 1) top with
            | false =>
              rw [h2, Bool.false_and] at q
              exact q
            | true =>
              rw [h2, Bool.true_and] at q
              simp only [Bool.not_true, Bool.false_eq_true, if_false]
              match more, hp, hl, q with
              | [], _, hl, q =>
                refine ite_t (by simp) ?_
                exact q
              | e :: more, hp, hl, q =>
                have pe := plain_of hp (d := e) (by simp)
                refine ite_f (by simp; omega) ?_
                exact ⟨e, atI_nat (j := 3) rfl, in_is_int pe q⟩
      · refine ite_t (by simp only [List.length_cons]; simp; omega) ?_
        have e : forT (some n) rest top = false := by
          unfold forT
          split
          · rename_i h1 h2
            cases h1
            simp only [List.length_cons] at hl
            rw [decide_eq_false (by omega), Bool.false_and]
          · rfl
        rw [e] at q
        exact q
theorem in_is_for {d : D} {t : Int} (h : d.plain = true) (q : Q (.bool (isForF d t))) : sp_is_for [d, .int t] Q E := ⟨(d, t), rfl, h, q⟩
theorem isRoomF_top {d : D} (h : isRoomF d = true) : ∃ r : Rm, r.Ok ∧ d = r.enc := by
  unfold isRoomF at h
  split at h
  · rename_i a b c
    rw [Bool.and_eq_true] at h
    obtain ⟨i, rfl, h1, h2⟩ := isIntF_int h.1
    have h' := Bool.and_eq_true_iff.mp (show (isIntF b 0 i && isIntF c 4 5) = true from h.2)
    obtain ⟨j, rfl, h3, h4⟩ := isIntF_int h'.1
    obtain ⟨l, rfl, h5, h6⟩ := isIntF_int h'.2
    exact ⟨⟨i, j, l⟩, ⟨h1, h2, h3, h4, h5, h6⟩, rfl⟩
  · cases h
theorem room_enc {r : Rm} (h : r.Ok) : isRoomF r.enc = true := by
  obtain ⟨h1, h2, h3, h4, h5, h6⟩ := h
  simp [isRoomF, roomT, Rm.enc, isIntF, h1, h2, h3, h4, h5, h6]
theorem in_check_room {x : Xc} {d : D} (h : d.plain = true) (q : if isRoomF d = true then Q .none else E x.badRoom) : sp_check_room x [d] Q E := ⟨d, rfl, h, by
  show match exB x.badRoom (isRoomF d) with
    | .ok d => Q d
    | .error c => E c
  cases hr : isRoomF d with
  | true => rw [hr] at q; exact q
  | false => rw [hr] at q; exact q⟩
theorem sem_is_regulator (x : Xc) : ∀ ds Q E, sp_is_regulator x ds Q E → t_is_regulator x (endD Q E) (startD 2 ds) := by
  rintro _ Q E ⟨⟨a, b⟩, rfl, ⟨h1, h2⟩, q⟩
  unfold t_is_regulator
  walk_at "ds"
  refine in_check_room h1 ?_
  cases hr : isRoomF a with
  | false =>
    simp only [hr] at q
    exact q
  | true =>
    simp only [hr, if_true] at q ⊢
    obtain ⟨r, ok, rfl⟩ := isRoomF_top hr
    rw [fIx_rm0]
    exact in_is_for h2 q
theorem sem_check_regulator (x : Xc) : ∀ ds Q E, sp_check_regulator x ds Q E → t_check_regulator x (endD Q E) (startD 2 ds) := by
  rintro _ Q E ⟨⟨a, b⟩, rfl, ⟨h1, h2⟩, q⟩
  unfold t_check_regulator
  walk_at "ds"
  refine in_check_room h1 ?_
  unfold chkRg at q
  cases hr : isRoomF a with
  | false =>
    simp only [hr] at q
    exact q
  | true =>
    simp only [hr, if_true] at q ⊢
    obtain ⟨r, ok, rfl⟩ := isRoomF_top hr
    rw [fIx_rm0]
    refine in_is_for h2 ?_
    have e : topOf r.enc = r.top := rfl
    rw [e] at q
    cases hf : isForF b r.top with
    | false => simp only [hf] at q; exact q
    | true => simp only [hf] at q; exact q
theorem in_check_regulator {x : Xc} {a b : D} (h1 : a.plain = true) (h2 : b.plain = true) (q : match chkRg x a b (.ok .none) with
    | .ok d => Q d
    | .error c => E c) : sp_check_regulator x [a, b] Q E := ⟨(a, b), rfl, ⟨h1, h2⟩, q⟩
theorem kd_nm (k : Kd) : kdOf k.nm = k := by cases k <;> decide +kernel
theorem tab_kd {k : Str} {n : Int} (h : tabAt l_SIZES k = some n) : ∃ d : Kd, k = d.nm ∧ n = if d.four = true then 4 else 3 := by
  unfold l_SIZES at h
  simp only [tabAt] at h
  split at h
  · rename_i e; cases h; exact ⟨.gap, e.symm, rfl⟩
  split at h
  · rename_i e; cases h; exact ⟨.stay, e.symm, rfl⟩
  split at h
  · rename_i e; cases h; exact ⟨.late, e.symm, rfl⟩
  split at h
  · rename_i e; cases h; exact ⟨.look, e.symm, rfl⟩
  split at h
  · rename_i e; cases h; exact ⟨.lean, e.symm, rfl⟩
  cases h
theorem isForF_rg {d : D} {t : Int} (h : isForF d t = true) : ∃ g : Rg, g.Ok t ∧ d = g.enc ∧ rgOf d = g := by
  unfold isForF at h
  split at h
  · rename_i k rest
    unfold forT at h
    split at h
    · rename_i n lo b more ht
      simp only [Bool.and_eq_true, decide_eq_true_eq] at h
      obtain ⟨hl, ⟨h0, h1⟩, h2, h3⟩ := h
      obtain ⟨kd, rfl, hn⟩ := tab_kd ht
      obtain ⟨hi, rfl, h4, h5⟩ := isIntF_int h2
      cases hf : kd.four with
      | false =>
        rw [hf] at hn
        have e : more = [] := by
          cases more with
          | nil => rfl
          | cons x y => simp at hl hn; omega
        subst e
        exact ⟨⟨kd, lo, hi, 0⟩, ⟨h0, by show lo < hi; omega, h5, fun z => (by rw [hf] at z; cases z), fun z => (by rw [hf] at z; cases z), fun _ => rfl⟩, by simp [Rg.enc, hf], by simp [rgOf, kd_nm]⟩
      | true =>
        rw [hf] at hn
        match more, hl, h3 with
        | [], hl, _ => simp at hl hn; omega
        | [c], _, h3 =>
          obtain ⟨tk, rfl, h6, h7⟩ := isIntF_int h3
          exact ⟨⟨kd, lo, hi, tk⟩, ⟨h0, by show lo < hi; omega, h5, fun _ => h6, fun _ => h7, fun z => (by rw [hf] at z; cases z)⟩, by simp [Rg.enc, hf], by simp [rgOf, kd_nm]⟩
        | c :: d :: r, hl, _ => simp at hl hn; omega
    · cases h
  · cases h
theorem tab_nm (k : Kd) : tabAt l_SIZES k.nm = some (if k.four = true then 4 else 3) := by cases k <;> decide +kernel
theorem rg_enc {g : Rg} {t : Int} (h : g.Ok t) : isForF g.enc t = true ∧ rgOf g.enc = g := by
  obtain ⟨h1, h2, h3, h4, h5, h6⟩ := h
  obtain ⟨kd, lo, hi, tk⟩ := g
  simp only at h1 h2 h3 h4 h5 h6
  cases hf : kd.four with
  | false =>
    have e : tk = 0 := h6 hf
    subst e
    refine ⟨?_, by simp [rgOf, Rg.enc, hf, kd_nm]⟩
    simp [isForF, forT, moreF, Rg.enc, hf, tab_nm, isIntF]
    omega
  | true =>
    have a := h4 hf
    have b := h5 hf
    refine ⟨?_, by simp [rgOf, Rg.enc, hf, kd_nm]⟩
    simp [isForF, forT, moreF, Rg.enc, hf, tab_nm, isIntF]
    omega
theorem sem_plain_name (x : Xc) : ∀ ds Q E, sp_plain_name x ds Q E → t_plain_name x (endD Q E) (startD 1 ds) := by
  rintro _ Q E ⟨d, rfl, h, q⟩
  unfold t_plain_name
  walk_at "ds"
  refine in_is_for h ?_
  cases hf : isForF d 10 with
  | false => simp only [hf] at q; exact q
  | true =>
    simp only [hf, if_true] at q
    obtain ⟨g, ok, rfl, e⟩ := isForF_rg hf
    rw [e] at q
    show fIx g.enc (D.int 0) Q
    rw [fIx_rg0]
    exact q
end
end HC
/-! HM4: running. -/
namespace HC
open PySem PySem.Spec PyProof.Rows L2
local macro_rules | `(tactic| walk_at "ds") => `(tactic| simp only [endD, startD, startT, List.map_cons, List.map_nil, List.length_cons, List.length_nil, List.replicate, List.cons_append, List.nil_append, Nat.reduceSub, Nat.reduceAdd, sSeq, sRet, sIf, sNil, sAsg, sUnp, sExpr, sPar2, sPar3, xCons, xNil, xVal, xOwn, bTest, bNot, bAnd, bOr, wVar, wPeek, slot, wC, wOp2, wB, wCons, wNil, wTup, wLst, wIf, wAnd, wOr, wNot, wNeg, wCall, wCallT, wSl, wPart, wNoPart, List.set, ex1, gT_t, gT_st, gT_pr, gC_c, gN_c, gNil_c, sRaise, wChain, sFrz, frz, wIsi, wTabIn, wTabAt,
  fAdd_i, fAdd_s, fAdd_l, fAdd_t, fSub_i, fLt_i, fLe_i, fGt_i, fGe_i, fEq_i, fNe_i, fIs_b, fIsN_b, gMin_2, gMax_2, gLen_l, gLen_t, fIx_rm0, fIx_rm1, fIx_rm2, fIx_st0, fIx_st1, fIx_st2, fIx_rg0, fIx_rg1, fIx_rg2, fSl_rg, fEq_gap, fEq_stay, fEq_late, fEq_look, fEq_lean])
theorem atI_last {α : Type} {xs : List α} {x : α} : atI (xs ++ [x]) (-1) = some x := by
  unfold atI ixN
  simp only [List.length_append, List.length_cons, List.length_nil]
  rw [if_neg (by omega), if_pos (by omega)]
  have e : (-1 + ((xs.length + (0 + 1) : Nat) : Int)).toNat = xs.length := by omega
  rw [e]
  simp
theorem atI_nil {α : Type} {i : Int} : atI ([] : List α) i = none := by
  unfold atI
  cases ixN ([] : List α).length i <;> simp
theorem cutL_tail {α : Type} {xs : List α} : cutL xs (some 1) none = xs.tail := by
  unfold cutL
  rw [HT.sIx_none, show (some 1 : Option Int) = some ((1 : Nat) : Int) from rfl, HT.sIx_nat]
  cases xs with
  | nil => rfl
  | cons x xs =>
    simp
theorem cutL_take {α : Type} {xs : List α} {n : Nat} : cutL xs none (some (n : Int)) = xs.take n := by
  unfold cutL
  rw [HT.sIx_none, HT.sIx_nat]
  simp
/-- a comprehension over encoded things -/
theorem comp_enc {α : Type} {g : GD} {te : TP} {r : Env} {Q : List D → Prop} (enc f : α → D) : ∀ (l : List α), (∀ a ∈ l, ∃ r1, g (enc a) r = some r1 ∧ ∀ Q' : D → Prop, Q' (f a) → te r1 Q' E0') → Q (l.map f) → compW g bYes te r (l.map enc) Q
  | [], _, q => q
  | d :: ds, h, q => by
    obtain ⟨r1, e1, hr⟩ := h d (by simp)
    exact ⟨r1, e1, hr _ (comp_enc (Q := fun ys => Q (f d :: ys)) enc f ds (fun x hx => h x (List.mem_cons_of_mem _ hx)) q)⟩
theorem comp_filt {α : Type} {g : GD} {tt : TB} {te : TP} {r : Env} {Q : List D → Prop} (enc f : α → D) (p : α → Bool) : ∀ (l : List α), (∀ a ∈ l, ∃ r1, g (enc a) r = some r1 ∧ (∀ Q' : Bool → Prop, Q' (p a) → tt r1 Q' E0') ∧ (p a = true → ∀ Q' : D → Prop, Q' (f a) → te r1 Q' E0')) → Q ((l.filter p).map f) → compW g tt te r (l.map enc) Q
  | [], _, q => q
  | d :: ds, h, q => by
    obtain ⟨r1, e1, ht, hr⟩ := h d (by simp)
    refine ⟨r1, e1, ht _ ?_⟩
    have h' := fun x hx => h x (List.mem_cons_of_mem _ hx)
    cases hp : p d with
    | true =>
      rw [List.filter_cons_of_pos (by rw [hp]), List.map_cons] at q
      exact hr hp _ (comp_filt (Q := fun ys => Q (f d :: ys)) enc f p ds h' q)
    | false =>
      rw [List.filter_cons_of_neg (by rw [hp]; exact Bool.false_ne_true)] at q
      exact comp_filt enc f p ds h' q
section
variable {Q : D → Prop} {E : Addr → Prop}
theorem sem_mark_of : ∀ ds Q E, sp_mark_of ds Q E → t_mark_of (endD Q E) (startD 2 ds) := by
  rintro _ Q E ⟨⟨s, i⟩, rfl, _, q⟩
  replace q : Q (if i = 0 then .int s.2.1 else encPr (s.2.1, s.1)) := q
  unfold t_mark_of
  walk_at "ds"
  simp only [decide_eq_true_eq]
  split
  · simp only [*, if_true] at q; exact q
  · simp only [*, if_false] at q; exact q
theorem in_mark_of {s : Sta} {i : Int} (q : Q (encMark i s)) : sp_mark_of [encSt s, .int i] Q E := ⟨(s, i), rfl, trivial, q⟩
theorem loop_states (rm : Rm) (g : Rg) (row : D) (e : En) : ∀ (ws : List Int) (pre : List Sta) (last : Sta) (sl : Sl), pre.length + ws.length ≤ 1000 →
    (∀ sl, e.nx [.val rm.enc, .val g.enc, .val row, .own (.list ((pre ++ runFrom rm g last ws).map encSt)), sl]) →
    loopW (gN 4) (sApp 3 (wCall sp_step (wCons (wVar 0) (wCons (wVar 1) (wCons (wOp2 fIx (wPeek 3) (wNeg (wC (.int 1)))) (wCons (wVar 4) wNil)))))) e (ws.map D.int)
      [.val rm.enc, .val g.enc, .val row, .own (.list ((pre ++ [last]).map encSt)), sl]
  | [], pre, last, sl, _, q => q sl
  | w :: ws, pre, last, sl, hl, q => by
    refine ⟨[.val rm.enc, .val g.enc, .val row, .own (.list ((pre ++ [last]).map encSt)), .val (.int w)], rfl, ?_⟩
    unfold sApp
    walk_at "ds"
    rw [fIx_l]
    refine ⟨encSt last, by rw [List.map_append]; exact atI_last, in_step ?_⟩
    refine ⟨?_, ?_⟩
    · simp only [List.length_map, List.length_append, List.length_cons, List.length_nil] at hl ⊢
      exact small1000 (by omega)
    · have := loop_states rm g row e ws (pre ++ [last]) (tick rm g last w) (.val (.int w)) (by simp only [List.length_append, List.length_cons, List.length_nil] at hl ⊢; omega) (by
        intro sl
        have := q sl
        rw [runFrom] at this
        simpa using this)
      rw [List.map_append] at this
      exact this
theorem sem_states_of : ∀ ds Q E, sp_states_of ds Q E → t_states_of (endD Q E) (startD 5 ds) := by
  rintro _ Q E ⟨⟨rm, g, ws⟩, rfl, hl, q⟩
  replace q : Q (encSts (along rm g ws)) := q
  replace hl : ws.length ≤ 1000 := hl
  unfold t_states_of
  walk_at "ds"
  refine in_first ?_
  exact loop_states rm g (encIs ws) _ ws [] (first rm) .un (by simpa using hl) fun sl => q
theorem in_states_of {rm : Rm} {g : Rg} {ws : List Int} (hl : ws.length ≤ 1000) (q : Q (encSts (along rm g ws))) : sp_states_of [rm.enc, g.enc, encIs ws] Q E := ⟨(rm, g, ws), rfl, hl, q⟩
theorem isRowF_is {d : D} (h : isRowF d = true) : ∃ ws : List Int, d = encIs ws ∧ ws.length ≤ 60 ∧ isOf d = ws ∧ ∀ w ∈ ws, 1 ≤ w ∧ w ≤ 3 := by
  cases d <;> first | cases h | skip
  rename_i ds
  have h' := Bool.and_eq_true_iff.mp (show (decide (ds.length ≤ 60) && ds.all fun d => isIntF d 1 3) = true from h)
  have hl := of_decide_eq_true h'.1
  have : ∃ ws : List Int, ds = ws.map D.int ∧ ∀ w ∈ ws, 1 ≤ w ∧ w ≤ 3 := by
    have ha := h'.2
    clear h h' hl
    induction ds with
    | nil => exact ⟨[], rfl, by simp⟩
    | cons d ds ih =>
      simp only [List.all_cons, Bool.and_eq_true] at ha
      obtain ⟨i, rfl, h1, h2⟩ := isIntF_int ha.1
      obtain ⟨ws, rfl, hw⟩ := ih ha.2
      exact ⟨i :: ws, rfl, by simp; exact ⟨⟨h1, h2⟩, hw⟩⟩
  obtain ⟨ws, rfl, hw⟩ := this
  refine ⟨ws, rfl, by simpa using hl, ?_, hw⟩
  show (dInts (ws.map D.int)).getD [] = ws
  rw [ints_map]
  rfl
theorem row_enc {ws : List Int} (hl : ws.length ≤ 60) (hw : ∀ w ∈ ws, 1 ≤ w ∧ w ≤ 3) : isRowF (encIs ws) = true ∧ isOf (encIs ws) = ws := by
  refine ⟨?_, by show (dInts (ws.map D.int)).getD [] = ws; rw [ints_map]; rfl⟩
  show (decide ((ws.map D.int).length ≤ 60) && (ws.map D.int).all fun d => isIntF d 1 3) = true
  rw [List.length_map, decide_eq_true hl, Bool.true_and, List.all_map, List.all_eq_true]
  intro w m
  have := hw w m
  simp [isIntF, this]
/-- an ending of a promise that may raise -/
def outE (Q : D → Prop) (E : Addr → Prop) : Ex → Prop
  | .ok d => Q d
  | .error c => E c
theorem in_check_row {x : Xc} {d : D} (h : d.plain = true) (q : if isRowF d = true then Q .none else E x.badWeather) : sp_check_row x [d] Q E := ⟨d, rfl, h, by
  show match exB x.badWeather (isRowF d) with
    | .ok d => Q d
    | .error c => E c
  cases hr : isRowF d with
  | true => rw [hr] at q; exact q
  | false => rw [hr] at q; exact q⟩
theorem in_check_sight {x : Xc} {d : D} (h : d.plain = true) (q : if isIntF d 0 1 = true then Q .none else E x.badNumber) : sp_check_sight x [d] Q E := ⟨d, rfl, h, by
  show match exB x.badNumber (isIntF d 0 1) with
    | .ok d => Q d
    | .error c => E c
  cases hr : isIntF d 0 1 with
  | true => rw [hr] at q; exact q
  | false => rw [hr] at q; exact q⟩
/-- the checks, in the order of the defs -/
theorem chkRow_or {x : Xc} {a b c : D} {k : Rm → Rg → List Int → Ex} (q : outE Q E (chkRow x (a, b, c) k)) :
    (isRoomF a = false ∧ E x.badRoom) ∨ (isRoomF a = true ∧ isForF b (topOf a) = false ∧ E x.badRegulator) ∨ (isRoomF a = true ∧ isForF b (topOf a) = true ∧ isRowF c = false ∧ E x.badWeather) ∨
    (∃ r g ws, a = Rm.enc r ∧ b = Rg.enc g ∧ c = encIs ws ∧ r.Ok ∧ g.Ok r.top ∧ ws.length ≤ 60 ∧ (∀ w ∈ ws, 1 ≤ w ∧ w ≤ 3) ∧ outE Q E (k r g ws)) := by
  unfold chkRow chkRg at q
  cases hr : isRoomF a with
  | false =>
    rw [if_neg (by simp [hr])] at q
    exact .inl ⟨rfl, q⟩
  | true =>
    rw [if_pos hr] at q
    cases hf : isForF b (topOf a) with
    | false =>
      rw [if_neg (by simp [hf])] at q
      exact .inr (.inl ⟨rfl, rfl, q⟩)
    | true =>
      rw [if_pos hf] at q
      cases hw : isRowF c with
      | false =>
        rw [if_neg (by simp [hw])] at q
        exact .inr (.inr (.inl ⟨rfl, rfl, rfl, q⟩))
      | true =>
        rw [if_pos hw] at q
        obtain ⟨r, ok, rfl⟩ := isRoomF_top hr
        obtain ⟨g, gk, rfl, e⟩ := isForF_rg hf
        obtain ⟨ws, rfl, hl, e2, hb⟩ := isRowF_is hw
        rw [e, e2] at q
        exact .inr (.inr (.inr ⟨r, g, ws, rfl, rfl, rfl, ok, gk, hl, hb, q⟩))
theorem chk_bad1 {x : Xc} {a b : D} (h1 : a.plain = true) (h2 : b.plain = true) (h : isRoomF a = false) (q : E x.badRoom) : sp_check_regulator x [a, b] Q E := in_check_regulator h1 h2 (by
  unfold chkRg
  rw [if_neg (by simp [h])]
  exact q)
theorem chk_bad2 {x : Xc} {a b : D} (h1 : a.plain = true) (h2 : b.plain = true) (h : isRoomF a = true) (h' : isForF b (topOf a) = false) (q : E x.badRegulator) : sp_check_regulator x [a, b] Q E := in_check_regulator h1 h2 (by
  unfold chkRg
  rw [if_pos h, if_neg (by simp [h'])]
  exact q)
theorem chk_ok {x : Xc} {a b : D} (h1 : a.plain = true) (h2 : b.plain = true) (h : isRoomF a = true) (h' : isForF b (topOf a) = true) (q : Q .none) : sp_check_regulator x [a, b] Q E := in_check_regulator h1 h2 (by
  unfold chkRg
  rw [if_pos h, if_pos h']
  exact q)
theorem row_bad {x : Xc} {d : D} (h : d.plain = true) (h' : isRowF d = false) (q : E x.badWeather) : sp_check_row x [d] Q E := in_check_row h (by rw [if_neg (by simp [h'])]; exact q)
theorem row_ok {x : Xc} {d : D} (h : d.plain = true) (h' : isRowF d = true) (q : Q .none) : sp_check_row x [d] Q E := in_check_row h (by rw [if_pos h']; exact q)
theorem sem_states_along (x : Xc) : ∀ ds Q E, sp_states_along x ds Q E → t_states_along x (endD Q E) (startD 3 ds) := by
  rintro _ Q E ⟨⟨a, b, c⟩, rfl, ⟨h1, h2, h3⟩, q⟩
  unfold t_states_along
  walk_at "ds"
  rcases chkRow_or q with ⟨g1, q⟩ | ⟨g1, g2, q⟩ | ⟨g1, g2, g3, q⟩ | ⟨r, g, ws, rfl, rfl, rfl, ok, gk, hl, hb, q⟩
  · exact chk_bad1 h1 h2 g1 q
  · exact chk_bad2 h1 h2 g1 g2 q
  · exact chk_ok h1 h2 g1 g2 (row_bad h3 g3 q)
  · exact chk_ok h1 h2 (room_enc ok) (rg_enc gk).1 (row_ok h3 (row_enc hl hb).1 (in_states_of (by omega) q))
theorem along_length (r : Rm) (g : Rg) (s : Sta) (ws : List Int) : (runFrom r g s ws).length = ws.length + 1 := by
  induction ws generalizing s with
  | nil => rfl
  | cons w ws ih => rw [runFrom, List.length_cons, ih, List.length_cons]
/-- the promise of states_along, from that of a function that calls it with its own arguments -/
theorem in_states_along {x : Xc} {a b c : D} {k : Rm → Rg → List Int → Ex} (h : pl3 (a, b, c)) {Q1 : D → Prop} (q : outE Q E (chkRow x (a, b, c) k))
    (hq : ∀ r g ws, r.Ok → g.Ok r.top → ws.length ≤ 60 → (∀ w ∈ ws, 1 ≤ w ∧ w ≤ 3) → outE Q E (k r g ws) → Q1 (encSts (along r g ws))) : sp_states_along x [a, b, c] Q1 E := by
  refine ⟨(a, b, c), rfl, h, ?_⟩
  show match chkRow x (a, b, c) fun r g ws => .ok (encSts (along r g ws)) with
    | .ok d => Q1 d
    | .error c => E c
  unfold chkRow chkRg
  rcases chkRow_or q with ⟨g1, q⟩ | ⟨g1, g2, q⟩ | ⟨g1, g2, g3, q⟩ | ⟨r, g, ws, rfl, rfl, rfl, ok, gk, hl, hb, q⟩
  · rw [if_neg (by simp [g1])]; exact q
  · rw [if_pos g1, if_neg (by simp [g2])]; exact q
  · rw [if_pos g1, if_pos g2, if_neg (by simp [g3])]; exact q
  · have e1 : isForF g.enc (topOf r.enc) = true := (rg_enc gk).1
    simp only [room_enc ok, e1, (row_enc hl hb).1, (rg_enc gk).2, (row_enc hl hb).2, if_true]
    exact hq r g ws ok gk hl hb q
theorem sem_run (x : Xc) : ∀ ds Q E, sp_run x ds Q E → t_run x (endD Q E) (startD 4 ds) := by
  rintro _ Q E ⟨⟨a, b, c⟩, rfl, h, q⟩
  unfold t_run wComp iSeq
  walk_at "ds"
  refine in_states_along h q fun r g ws ok gk hl hb q => ?_
  rw [encSts, fSl_l, cutL_tail]
  have hlen := along_length r g (first r) ws
  refine ⟨le1000 (by simp [along, hlen]; omega), ?_⟩
  rw [← List.map_tail]
  replace q : Q (encIs _) := q
  rw [encIs, List.map_map] at q
  refine comp_enc encSt (fun s => .int s.2.1) _ (fun s _ => ⟨_, rfl, fun Q' q' => ?_⟩) q
  show fIx (encSt s) (.int 1) Q'
  rw [fIx_st1]
  exact q'
theorem sem_heats_of (x : Xc) : ∀ ds Q E, sp_heats_of x ds Q E → t_heats_of x (endD Q E) (startD 4 ds) := by
  rintro _ Q E ⟨⟨a, b, c⟩, rfl, h, q⟩
  unfold t_heats_of wComp iSeq
  walk_at "ds"
  refine in_states_along h q fun r g ws ok gk hl hb q => ?_
  have hlen := along_length r g (first r) ws
  refine ⟨le1000 (by simp [along, hlen]; omega), ?_⟩
  replace q : Q (encIs _) := q
  rw [encIs, List.map_map] at q
  refine comp_enc encSt (fun s => .int s.1) _ (fun s _ => ⟨_, rfl, fun Q' q' => ?_⟩) q
  show fIx (encSt s) (.int 0) Q'
  rw [fIx_st0]
  exact q'
theorem atI_last? {α : Type} {xs : List α} {x : α} (h : xs.getLast? = some x) : atI xs (-1) = some x := by
  obtain ⟨ys, rfl⟩ := List.getLast?_eq_some_iff.mp h
  exact atI_last
theorem sem_state_after (x : Xc) : ∀ ds Q E, sp_state_after x ds Q E → t_state_after x (endD Q E) (startD 3 ds) := by
  rintro _ Q E ⟨⟨a, b, c⟩, rfl, h, q⟩
  unfold t_state_after
  walk_at "ds"
  refine in_states_along h q fun r g ws ok gk hl hb q => ?_
  rw [encSts]
  show fIx (.list _) (.int (-1)) Q
  rw [fIx_l]
  have hlen := along_length r g (first r) ws
  have : ∃ s, (along r g ws).getLast? = some s := by
    cases e : (along r g ws).getLast? with
    | none => rw [List.getLast?_eq_none_iff] at e; rw [along] at e; rw [e] at hlen; cases hlen
    | some s => exact ⟨s, rfl⟩
  obtain ⟨s, e⟩ := this
  refine ⟨encSt s, atI_last? (by rw [List.getLast?_map, e]; rfl), ?_⟩
  replace q : Q (encSt (lastSt r (along r g ws))) := q
  rw [lastSt, e] at q
  exact q
theorem sem_marks_of (x : Xc) : ∀ ds Q E, sp_marks_of x ds Q E → t_marks_of x (endD Q E) (startD 5 ds) := by
  rintro _ Q E ⟨⟨a, b, c, d⟩, rfl, ⟨⟨h1, h2, h3⟩, h4⟩, q⟩
  replace h4 : d.plain = true := h4
  unfold t_marks_of wComp iSeq
  walk_at "ds"
  rcases chkRow_or q with ⟨g1, q⟩ | ⟨g1, g2, q⟩ | ⟨g1, g2, g3, q⟩ | ⟨r, g, ws, rfl, rfl, rfl, ok, gk, hl, hb, q⟩
  · exact chk_bad1 h1 h2 g1 q
  · exact chk_bad2 h1 h2 g1 g2 q
  · exact chk_ok h1 h2 g1 g2 (row_bad h3 g3 q)
  · refine chk_ok h1 h2 (room_enc ok) (rg_enc gk).1 (row_ok h3 (row_enc hl hb).1 (in_check_sight h4 ?_))
    cases hs : isIntF d 0 1 with
    | false =>
      simp only [hs] at q ⊢
      exact q
    | true =>
      simp only [hs, if_true] at q ⊢
      obtain ⟨i, rfl, _, _⟩ := isIntF_int hs
      replace q : Q (.list ((along r g ws).tail.map (encMark i))) := q
      refine in_states_of (by omega) ?_
      rw [encSts, fSl_l, cutL_tail]
      have hlen := along_length r g (first r) ws
      refine ⟨le1000 (by simp [along, hlen]; omega), ?_⟩
      rw [← List.map_tail]
      exact comp_enc encSt (encMark i) _ (fun s _ => ⟨_, rfl, fun Q' q' => in_mark_of (E := E0') q'⟩) q
theorem zip_map {α β : Type} (f : α → D) (g : β → D) (xs : List α) (ys : List β) : zipD (xs.map f) (ys.map g) = (xs.zip ys).map fun p => D.tuple [f p.1, g p.2] := by
  unfold zipD
  rw [List.zip_map, List.map_map]
  rfl
theorem clicks_zip : ∀ l : List Int, ((l.zip l.tail).filter fun p => !decide (p.1 = p.2)).length = clicksOf l
  | [] => rfl
  | [a] => rfl
  | a :: b :: r => by
    have ih := clicks_zip (b :: r)
    rw [clicksOf, List.tail_cons, List.zip_cons_cons]
    by_cases h : a = b
    · rw [List.filter_cons_of_neg (by simp [h]), if_pos h, Nat.zero_add]
      exact ih
    · rw [List.filter_cons_of_pos (by simp [h]), if_neg h, List.length_cons, Nat.add_comm]
      exact congrArg (1 + ·) ih
theorem sem_count_clicks (x : Xc) : ∀ ds Q E, sp_count_clicks x ds Q E → t_count_clicks x (endD Q E) (startD 7 ds) := by
  rintro _ Q E ⟨⟨a, b, c⟩, rfl, h, q⟩
  unfold t_count_clicks wComp iSeq iZipD
  walk_at "ds"
  refine in_states_along h q fun r g ws ok gk hl hb q => ?_
  have hlen := along_length r g (first r) ws
  refine ⟨le1000 (by simp [along, hlen]; omega), ?_⟩
  replace q : Q (.int (clicksOf ((along r g ws).map (·.2.1)))) := q
  refine comp_enc encSt (fun s => .int s.2.1) _ (fun s _ => ⟨_, rfl, fun Q' q' => ?_⟩) ?_
  · show fIx (encSt s) (.int 1) Q'
    rw [fIx_st1]
    exact q'
  · rw [fSl_l, cutL_tail]
    have e : (List.map (fun s : Sta => D.int s.2.1) (along r g ws)) = ((along r g ws).map (·.2.1)).map D.int := by rw [List.map_map]; rfl
    simp only
    rw [e, ← List.map_tail, zip_map]
    have hl2 : ((along r g ws).map (·.2.1)).length = ws.length + 1 := by rw [List.length_map, along, hlen]
    generalize (along r g ws).map (·.2.1) = l at q hl2
    refine ⟨le1000 (by rw [List.length_map, List.length_zip]; omega), ?_⟩
    refine comp_filt (fun p : Int × Int => D.tuple [.int p.1, .int p.2]) (fun p => .int p.1) (fun p => !decide (p.1 = p.2)) _ (fun p _ => ⟨_, rfl, fun Q' q' => ?_, fun _ Q' q' => q'⟩) ?_
    · show fNe (.int p.1) (.int p.2) (fun d => match d with
        | .bool k => Q' k
        | _ => False)
      rw [fNe_i]
      exact q'
    · show Q (.int _)
      rw [List.length_map, clicks_zip]
      exact q
end
end HC
/-! HM5: the laws' own helpers. -/
namespace HC
open PySem PySem.Spec PyProof.Rows L2
local macro_rules | `(tactic| walk_at "ds") => `(tactic| simp only [endD, startD, startT, List.map_cons, List.map_nil, List.length_cons, List.length_nil, List.replicate, List.cons_append, List.nil_append, Nat.reduceSub, Nat.reduceAdd, sSeq, sRet, sIf, sNil, sAsg, sUnp, sExpr, sPar2, sPar3, xCons, xNil, xVal, xOwn, bTest, bNot, bAnd, bOr, wVar, wPeek, slot, wC, wOp2, wB, wCons, wNil, wTup, wLst, wIf, wAnd, wOr, wNot, wNeg, wCall, wCallT, wSl, wPart, wNoPart, List.set, ex1, gT_t, gT_st, gT_pr, gC_c, gN_c, gNil_c, sRaise, wChain, sFrz, frz, wIsi, wTabIn, wTabAt,
  fAdd_i, fAdd_s, fAdd_l, fAdd_t, fSub_i, fLt_i, fLe_i, fGt_i, fGe_i, fEq_i, fNe_i, fIs_b, fIsN_b, gMin_2, gMax_2, gLen_l, gLen_t, fIx_rm0, fIx_rm1, fIx_rm2, fIx_st0, fIx_st1, fIx_st2, fIx_rg0, fIx_rg1, fIx_rg2, fSl_rg, fEq_gap, fEq_stay, fEq_late, fEq_look, fEq_lean])
section
variable {Q : D → Prop} {E : Addr → Prop}
theorem in_draw {l : Int} (h1 : 0 < l) (h2 : l < 1073741824) (q : ∀ k, 0 ≤ k → k < l → Q (.int k)) : sp__law_draw [.int l] Q E := ⟨l, rfl, h1, h2, q⟩
theorem in_pick {cs : List D} (h1 : 0 < cs.length) (h2 : cs.length ≤ 1000) (q : ∀ d, d ∈ cs → Q d) : sp__law_pick [.list cs] Q E := ⟨cs, rfl, h1, h2, q⟩
theorem mo_pick : MonoSp 1 sp__law_pick := ⟨fun hq _ ⟨l, e, a, b, h⟩ => ⟨l, e, a, b, fun k h1 => hq _ (h k h1)⟩, fun ⟨l, e, _⟩ => by rw [e]; rfl⟩
theorem sem__law_pick : ∀ ds Q E, sp__law_pick ds Q E → t__law_pick (endD Q E) (startT 2 ds) := by
  rintro _ Q E ⟨cs, rfl, h1, h2, q⟩
  unfold t__law_pick
  walk_at "ds"
  refine in_draw (by omega) (by omega) fun k k0 kl => ?_
  rw [fIx_l]
  have hk : k.toNat < cs.length := by omega
  refine ⟨cs[k.toNat], ?_, q _ (List.getElem_mem hk)⟩
  have := atI_nat (xs := cs) (j := k.toNat) (v := cs[k.toNat]) (List.getElem?_eq_getElem hk)
  rwa [Int.toNat_of_nonneg k0] at this
theorem sem__law_room : ∀ ds Q E, sp__law_room ds Q E → t__law_room (endD Q E) (startT 2 ds) := by
  rintro _ Q E ⟨_, rfl, _, q⟩
  replace q : ∀ d, (∃ r : Rm, r.Ok ∧ d = r.enc) → Q d := q
  unfold t__law_room
  walk_at "ds"
  refine in_draw (by omega) (by omega) fun a a0 a5 => ?_
  walk_at "ds"
  refine in_draw (l := 6 + a + 1) (by omega) (by omega) fun b b0 b5 => ?_
  refine in_draw (by omega) (by omega) fun c c0 c5 => ?_
  refine q _ ⟨⟨6 + a, b, 4 + c⟩, ⟨by show 6 ≤ 6 + a; omega, by show 6 + a ≤ 10; omega, b0, by show b ≤ 6 + a; omega, by show 4 ≤ 4 + c; omega, by show 4 + c ≤ 5; omega⟩, rfl⟩
theorem in_room (q : ∀ r : Rm, r.Ok → Q r.enc) : sp__law_room [] Q E := ⟨(), rfl, trivial, fun d ⟨r, ok, e⟩ => e ▸ q r ok⟩
theorem fIn_four {k : Kd} : fIn (.str k.nm) (.tuple [.str "stay", .str "look"]) Q = Q (.bool k.four) := by
  rw [fIn_t]
  have e : dIn (.str k.nm) [.str "stay", .str "look"] = k.four := by cases k <;> decide +kernel
  rw [e]
  exact propext ⟨fun h => h.2, fun h => ⟨⟨rfl, rfl⟩, h⟩⟩
theorem sem__law_regulator : ∀ ds Q E, sp__law_regulator ds Q E → t__law_regulator (endD Q E) (startT 6 ds) := by
  rintro _ Q E ⟨rm, rfl, ok, q⟩
  replace q : ∀ d, (∃ g : Rg, g.Ok rm.top ∧ d = g.enc) → Q d := q
  have t6 := Rm.Ok.t6 ok
  have t10 := Rm.Ok.t10 ok
  unfold t__law_regulator
  walk_at "ds"
  refine in_draw (by omega) (by omega) fun lo lo0 lol => ?_
  walk_at "ds"
  refine in_pick (by decide) (by decide) fun w hw => ?_
  have hw' : ∃ i : Int, w = .int i ∧ 2 ≤ i ∧ i ≤ 10 := by
    simp only [List.mem_cons, List.mem_nil_iff, or_false] at hw
    rcases hw with rfl | rfl | rfl
    · exact ⟨2, rfl, by omega, by omega⟩
    · exact ⟨4, rfl, by omega, by omega⟩
    · exact ⟨10, rfl, by omega, by omega⟩
  obtain ⟨i, rfl, i2, i10⟩ := hw'
  rw [gMin_2]
  have hm : 0 < (if i < rm.top - lo then i else rm.top - lo) ∧ (if i < rm.top - lo then i else rm.top - lo) ≤ rm.top - lo := by omega
  refine in_draw hm.1 (by omega) fun wd wd0 wdl => ?_
  walk_at "ds"
  refine in_pick (by decide) (by decide) fun k hk => ?_
  have hk' : ∃ d : Kd, k = .str d.nm := by
    simp only [List.mem_cons, List.mem_nil_iff, or_false] at hk
    rcases hk with rfl | rfl | rfl | rfl | rfl
    · exact ⟨.gap, rfl⟩
    · exact ⟨.stay, rfl⟩
    · exact ⟨.late, rfl⟩
    · exact ⟨.look, rfl⟩
    · exact ⟨.lean, rfl⟩
  obtain ⟨d, rfl⟩ := hk'
  rw [fIn_four]
  cases hf : d.four with
  | true =>
    refine ite_t rfl ?_
    refine in_draw (by omega) (by omega) fun t t0 t2 => ?_
    walk_at "ds"
    refine ⟨by decide, q _ ⟨⟨d, lo, lo + (1 + wd), 2 + t⟩, ⟨lo0, by show lo < lo + (1 + wd); omega, by show lo + (1 + wd) ≤ rm.top; omega, fun _ => by show 2 ≤ 2 + t; omega, fun _ => by show 2 + t ≤ 3; omega, fun z => absurd z (by show ¬ d.four = false; rw [hf]; exact Bool.noConfusion)⟩, ?_⟩⟩
    simp [Rg.enc, hf]
  | false =>
    refine ite_f rfl ?_
    refine q _ ⟨⟨d, lo, lo + (1 + wd), 0⟩, ⟨lo0, by show lo < lo + (1 + wd); omega, by show lo + (1 + wd) ≤ rm.top; omega, fun z => absurd z (by show ¬ d.four = true; rw [hf]; exact Bool.noConfusion), fun z => absurd z (by show ¬ d.four = true; rw [hf]; exact Bool.noConfusion), fun _ => rfl⟩, ?_⟩
    simp [Rg.enc, hf]
theorem in_regulator {r : Rm} (ok : r.Ok) (q : ∀ g : Rg, g.Ok r.top → Q g.enc) : sp__law_regulator [r.enc] Q E := ⟨r, rfl, ok, fun d ⟨g, gk, e⟩ => e ▸ q g gk⟩
theorem sem__law_row : ∀ ds Q E, sp__law_row ds Q E → t__law_row (endD Q E) (startT 4 ds) := by
  rintro _ Q E ⟨n, rfl, ⟨n0, n60⟩, q⟩
  replace q : ∀ d, (∃ ws : List Int, (∀ w ∈ ws, 1 ≤ w ∧ w ≤ 3) ∧ (ws.length : Int) ≤ n ∧ d = encIs ws) → Q d := q
  replace n0 : 0 ≤ n := n0
  replace n60 : n ≤ 60 := n60
  unfold t__law_row
  walk_at "ds"
  refine in_draw (by omega) (by omega) fun m m0 mn => ?_
  unfold sWhile
  refine ⟨fun k r => ∃ ws : List Int, (∀ w ∈ ws, 1 ≤ w ∧ w ≤ 3) ∧ ws.length ≤ 100 ∧ k = 100 - ws.length ∧ r = [.tok, .val (.int n), .val (encIs ws), .val (.int m)], ⟨100, [], by simp, by simp, rfl, rfl⟩, ?_⟩
  rintro k r ⟨ws, hw, hl, hk, rfl⟩
  walk_at "ds"
  rw [encIs]
  walk_at "ds"
  by_cases hc : (((ws.map D.int).length : Nat) : Int) < m
  · refine ite_t (decide_eq_true hc) ?_
    rw [List.length_map] at hc
    refine in_draw (by omega) (by omega) fun w w0 w3 => ?_
    refine in_pick (E := E) (by decide) (by decide) fun j hj => ?_
    have hj' : ∃ i : Nat, j = .int i ∧ 1 ≤ i ∧ i ≤ 4 := by
      simp only [List.mem_cons, List.mem_nil_iff, or_false] at hj
      rcases hj with rfl | rfl | rfl | rfl
      · exact ⟨1, rfl, by omega, by omega⟩
      · exact ⟨1, rfl, by omega, by omega⟩
      · exact ⟨2, rfl, by omega, by omega⟩
      · exact ⟨4, rfl, by omega, by omega⟩
    obtain ⟨i, rfl, i1, i4⟩ := hj'
    rw [fMul_l]
    have ei : (i : Int).toNat = i := Int.toNat_natCast i
    rw [ei]
    have ef : ∀ (i : Nat) (d : D), (List.replicate i [d]).flatten = List.replicate i d := fun i d => by
      induction i with
      | zero => rfl
      | succ i ih => rw [List.replicate_succ, List.flatten_cons, ih]; rfl
    rw [ef]
    refine ⟨⟨by omega, by omega, le1000 (by simp only [List.length_cons, List.length_nil]; omega)⟩, ?_⟩
    rw [fAdd_l]
    refine ⟨le1000 (by simp only [List.length_map, List.length_replicate]; omega), ?_⟩
    refine ⟨100 - (ws ++ List.replicate i (1 + w)).length, ?_, ws ++ List.replicate i (1 + w), ?_, ?_, rfl, ?_⟩
    · rw [List.length_append, List.length_replicate]; omega
    · intro z hz
      rcases List.mem_append.mp hz with hz | hz
      · exact hw z hz
      · cases (List.mem_replicate.mp hz).2
        omega
    · rw [List.length_append, List.length_replicate]; omega
    · simp [encIs]
  · refine ite_f (decide_eq_false hc) ?_
    rw [fSl_l, ← Int.toNat_of_nonneg m0, cutL_take]
    refine q _ ⟨ws.take m.toNat, fun w h => hw w (List.mem_of_mem_take h), ?_, by rw [encIs, List.map_take]⟩
    rw [List.length_take]
    omega
theorem in_row {n : Int} (n0 : 0 ≤ n) (n60 : n ≤ 60) (q : ∀ ws : List Int, (∀ w ∈ ws, 1 ≤ w ∧ w ≤ 3) → (ws.length : Int) ≤ n → Q (encIs ws)) : sp__law_row [.int n] Q E := ⟨n, rfl, ⟨n0, n60⟩, fun d ⟨ws, a, b, e⟩ => e ▸ q ws a b⟩
theorem sem__law_set : ∀ ds Q E, sp__law_set ds Q E → t__law_set (endD Q E) (startD 11 ds) := by
  rintro _ Q E ⟨⟨g, b, h, s, m⟩, rfl, _, q⟩
  replace q : Q (encPr (setL g b h s m)) := q
  unfold setL at q
  unfold t__law_set
  walk_at "ds"
  rw [fIn_four]
  have fin : ∀ (looked bar : Int) (Q : Int → Prop), Q (if looked ≤ g.lo then 1 else if bar ≤ looked then 0 else s) → (if decide (looked ≤ g.lo) = true then Q 1 else if decide (bar ≤ looked) = true then Q 0 else Q s) := fun looked bar Q q => by
    simp only [decide_eq_true_eq]
    split
    · simpa [*] using q
    · split
      · simpa [*] using q
      · simpa [*] using q
  cases hk : g.kd with
  | gap =>
    simp only [hk, Kd.four, reduceCtorEq, decide_true, decide_false, Bool.false_eq_true, if_true, if_false, false_and] at q ⊢
    exact fin _ _ (fun z => Q (.tuple [.int z, .int 0])) q
  | late =>
    simp only [hk, Kd.four, reduceCtorEq, decide_true, decide_false, Bool.false_eq_true, if_true, if_false, false_and] at q ⊢
    exact fin _ _ (fun z => Q (.tuple [.int z, .int 0])) q
  | lean =>
    simp only [hk, Kd.four, reduceCtorEq, decide_true, decide_false, Bool.false_eq_true, if_true, if_false, false_and, true_and] at q ⊢
    simp only [decide_eq_true_eq]
    by_cases h1 : h ≤ g.lo <;> by_cases h2 : g.hi - m ≤ h <;> by_cases h3 : s = 1 <;> by_cases h4 : m + 1 < g.hi - g.lo <;> (simp only [h1, h2, h3, h4, if_true, if_false, encPr, Int.reduceEq, eq_self, true_and, false_and, and_true, and_false] at q ⊢; first | exact q | (simp only [h1, h2, h3, h4, if_true, if_false] at q ⊢; exact q))
  | stay =>
    have f : g.kd.four = true := by rw [hk]; rfl
    simp only [hk, Kd.four, reduceCtorEq, decide_true, decide_false, Bool.false_eq_true, if_true, if_false, false_and, true_and, decide_eq_true_eq, fIx_rg3 f, fSub_i] at q ⊢
    split
    · rename_i hm
      rw [if_pos hm] at q
      exact q
    · rename_i hm
      rw [if_neg hm] at q
      by_cases h1 : h ≤ g.lo <;> by_cases h2 : g.hi ≤ h <;> by_cases h3 : s = 1 <;> by_cases h4 : s = 0 <;> by_cases h5 : 1 = s <;> by_cases h6 : 0 = s <;> (first | omega | skip) <;> (simp only [h1, h2, h5, h6, if_true, if_false, encPr, Int.reduceEq, eq_self, true_and, false_and, and_true, and_false] at q ⊢; first | exact q | (simp only [h1, h2, h5, h6, if_true, if_false] at q ⊢; exact q))
  | look =>
    have f : g.kd.four = true := by rw [hk]; rfl
    simp only [hk, Kd.four, reduceCtorEq, decide_true, decide_false, Bool.false_eq_true, if_true, if_false, false_and, true_and, decide_eq_true_eq, fIx_rg3 f, fSub_i] at q ⊢
    split
    · rename_i hm
      rw [if_pos hm] at q
      exact q
    · rename_i hm
      rw [if_neg hm] at q
      have := fin h g.hi (fun z => Q (.tuple [.int z, .int (g.tk - 1)])) q
      simpa only [decide_eq_true_eq] using this
theorem in__law_set {g : Rg} {a b c d : Int} (q : Q (encPr (setL g a b c d))) : sp__law_set [g.enc, .int a, .int b, .int c, .int d] Q E := ⟨(g, a, b, c, d), rfl, trivial, q⟩
theorem sem__law_step : ∀ ds Q E, sp__law_step ds Q E → t__law_step (endD Q E) (startD 7 ds) := by
  rintro _ Q E ⟨⟨rm, g, s, w⟩, rfl, _, q⟩
  replace q : Q (encSt (tickL rm g s w)) := q
  unfold t__law_step
  walk_at "ds"
  have fin : ∀ h : Int, h = warmL rm s.1 s.2.1 w → Q (.tuple [.int h, .int (setL g s.1 h s.2.1 s.2.2).1, .int (setL g s.1 h s.2.1 s.2.2).2]) := fun h e => (by subst e; exact q)
  simp only [decide_eq_true_eq]
  repeat' split
  all_goals exact in__law_set ⟨_, rfl, fin _ (by simp only [warmL, *, if_true, if_false])⟩
theorem in__law_step {r : Rm} {g : Rg} {s : Sta} {w : Int} (q : Q (encSt (tickL r g s w))) : sp__law_step [r.enc, g.enc, encSt s, .int w] Q E := ⟨(r, g, s, w), rfl, trivial, q⟩
theorem loop_runL (rm : Rm) (g : Rg) (row : D) (e : En) : ∀ (ws : List Int) (pre : List Sta) (last : Sta) (sl : Sl), pre.length + ws.length ≤ 1000 →
    (∀ sl, e.nx [.val rm.enc, .val g.enc, .val row, .own (.list ((pre ++ runL rm g last ws).map encSt)), sl]) →
    loopW (gN 4) (sApp 3 (wCall sp__law_step (wCons (wVar 0) (wCons (wVar 1) (wCons (wOp2 fIx (wPeek 3) (wNeg (wC (.int 1)))) (wCons (wVar 4) wNil)))))) e (ws.map D.int)
      [.val rm.enc, .val g.enc, .val row, .own (.list ((pre ++ [last]).map encSt)), sl]
  | [], pre, last, sl, _, q => q sl
  | w :: ws, pre, last, sl, hl, q => by
    refine ⟨[.val rm.enc, .val g.enc, .val row, .own (.list ((pre ++ [last]).map encSt)), .val (.int w)], rfl, ?_⟩
    unfold sApp
    walk_at "ds"
    rw [fIx_l]
    refine ⟨encSt last, by rw [List.map_append]; exact atI_last, in__law_step ?_⟩
    refine ⟨?_, ?_⟩
    · simp only [List.length_map, List.length_append, List.length_cons, List.length_nil] at hl ⊢
      exact small1000 (by omega)
    · have := loop_runL rm g row e ws (pre ++ [last]) (tickL rm g last w) (.val (.int w)) (by simp only [List.length_append, List.length_cons, List.length_nil] at hl ⊢; omega) (by
        intro sl
        have := q sl
        rw [runL] at this
        simpa using this)
      rw [List.map_append] at this
      exact this
theorem sem__law_along : ∀ ds Q E, sp__law_along ds Q E → t__law_along (endD Q E) (startD 5 ds) := by
  rintro _ Q E ⟨⟨rm, g, ws⟩, rfl, hl, q⟩
  replace q : Q (encSts (runL rm g (first rm) ws)) := q
  replace hl : ws.length ≤ 1000 := hl
  unfold t__law_along
  walk_at "ds"
  exact loop_runL rm g (encIs ws) _ ws [] (first rm) .un (by simpa using hl) fun sl => q
theorem in__law_along {rm : Rm} {g : Rg} {ws : List Int} (hl : ws.length ≤ 1000) (q : Q (encSts (runL rm g (first rm) ws))) : sp__law_along [rm.enc, g.enc, encIs ws] Q E := ⟨(rm, g, ws), rfl, hl, q⟩
end
end HC
/-! HM6: the promises are monotone. -/
namespace HC
open PySem PySem.Spec PyProof.Rows L2
theorem mo_first_state : MonoSp 1 sp_first_state := mo_spOf fun _ => rfl
theorem mo_warmed : MonoSp 4 sp_warmed := mo_spOf fun _ => rfl
theorem mo_decided : MonoSp 4 sp_decided := mo_spOf fun _ => rfl
theorem mo_set_switch : MonoSp 5 sp_set_switch := mo_spOf fun _ => rfl
theorem mo_step : MonoSp 4 sp_step := mo_spOf fun _ => rfl
theorem mo_is_int : MonoSp 3 sp_is_int := mo_spOf fun _ => rfl
theorem mo_check_number (x : Xc) : MonoSp 3 (sp_check_number x) := mo_spEx fun _ => rfl
theorem mo_check_sight (x : Xc) : MonoSp 1 (sp_check_sight x) := mo_spEx fun _ => rfl
theorem mo_is_room : MonoSp 1 sp_is_room := mo_spOf fun _ => rfl
theorem mo_check_room (x : Xc) : MonoSp 1 (sp_check_room x) := mo_spEx fun _ => rfl
theorem mo_is_weather : MonoSp 1 sp_is_weather := mo_spOf fun _ => rfl
theorem mo_is_row : MonoSp 1 sp_is_row := mo_spOf fun _ => rfl
theorem mo_check_row (x : Xc) : MonoSp 1 (sp_check_row x) := mo_spEx fun _ => rfl
theorem mo_is_for : MonoSp 2 sp_is_for := mo_spOf fun _ => rfl
theorem mo_is_regulator (x : Xc) : MonoSp 2 (sp_is_regulator x) := mo_spEx fun _ => rfl
theorem mo_check_regulator (x : Xc) : MonoSp 2 (sp_check_regulator x) := mo_spEx fun _ => rfl
theorem mo_plain_name (x : Xc) : MonoSp 1 (sp_plain_name x) := mo_spEx fun _ => rfl
theorem mo_mark_of : MonoSp 2 sp_mark_of := mo_spOf fun _ => rfl
theorem mo_states_of : MonoSp 3 sp_states_of := mo_spOf fun _ => rfl
theorem mo_states_along (x : Xc) : MonoSp 3 (sp_states_along x) := mo_spEx fun _ => rfl
theorem mo_run (x : Xc) : MonoSp 3 (sp_run x) := mo_spEx fun _ => rfl
theorem mo_marks_of (x : Xc) : MonoSp 4 (sp_marks_of x) := mo_spEx fun _ => rfl
theorem mo_heats_of (x : Xc) : MonoSp 3 (sp_heats_of x) := mo_spEx fun _ => rfl
theorem mo_state_after (x : Xc) : MonoSp 3 (sp_state_after x) := mo_spEx fun _ => rfl
theorem mo_count_clicks (x : Xc) : MonoSp 3 (sp_count_clicks x) := mo_spEx fun _ => rfl
theorem mo__law_pick : MonoSp 1 sp__law_pick := mo_pick
theorem mo__law_room : MonoSp 0 sp__law_room := mo_spAny fun _ => rfl
theorem mo__law_regulator : MonoSp 1 sp__law_regulator := mo_spAny fun _ => rfl
theorem mo__law_row : MonoSp 1 sp__law_row := mo_spAny fun _ => rfl
theorem mo__law_set : MonoSp 5 sp__law_set := mo_spOf fun _ => rfl
theorem mo__law_step : MonoSp 4 sp__law_step := mo_spOf fun _ => rfl
theorem mo__law_along : MonoSp 3 sp__law_along := mo_spOf fun _ => rfl
end HC
/-! HM7: equal things are equal; the law's tick is the program's. -/
namespace HC
open PySem PySem.Spec PyProof.Rows L2
mutual
theorem deq_refl : ∀ d : D, d.plain = true → deq d d = true
  | .none, _ => rfl
  | .bool b, _ => by show (b == b) = true; simp
  | .int i, _ => by show (i == i) = true; simp
  | .str x, _ => by show (x == x) = true; simp
  | .list xs, h => deqs_refl xs h
  | .tuple xs, h => deqs_refl xs h
  | .dict _, h => by cases h
  | .tdict _, h => by cases h
  | .exc _, h => by cases h
  | .kdict _, h => by cases h
theorem deqs_refl : ∀ ds : List D, D.plains ds = true → PyData.eqvAll (D.pys ds) (D.pys ds) = true
  | [], _ => rfl
  | d :: ds, h => by
    have h' := Bool.and_eq_true_iff.mp (show (d.plain && D.plains ds) = true from h)
    rw [eqvAll_cons, deq_refl d h'.1, deqs_refl ds h'.2]
    rfl
end
section
variable {Q : D → Prop} {E : Addr → Prop}
theorem fNe_same {d e : D} (z : d = e) (h : e.sh 64) (q : Q (.bool false)) : fNe d e Q := by
  subst z
  exact ⟨⟨h, h⟩, by rw [deq_refl _ h.pl]; exact q⟩
theorem fEq_same {d e : D} (z : d = e) (h : e.sh 64) (q : Q (.bool true)) : fEq d e Q := by
  subst z
  exact ⟨⟨h, h⟩, by rw [deq_refl _ h.pl]; exact q⟩
theorem sh_l64 {ds : List D} {n : Nat} (h : ∀ d ∈ ds, d.sh n) (hn : n ≤ 63 := by decide) : (D.list ds).sh 64 := (sh_list h).mono (by omega)
theorem sh_t64 {ds : List D} {n : Nat} (h : ∀ d ∈ ds, d.sh n) (hn : n ≤ 63 := by decide) : (D.tuple ds).sh 64 := (sh_tuple h).mono (by omega)
theorem sh_st (s : Sta) : (encSt s).sh 1 := sh_tuple (n := 0) fun d hd => by
  simp only [List.mem_cons, List.mem_nil_iff, or_false] at hd
  rcases hd with rfl | rfl | rfl <;> exact sh_int' _ _
theorem sh_pr (s : Int × Int) : (encPr s).sh 1 := sh_tuple (n := 0) fun d hd => by
  simp only [List.mem_cons, List.mem_nil_iff, or_false] at hd
  rcases hd with rfl | rfl <;> exact sh_int' _ _
theorem sh_map {α : Type} {f : α → D} {n : Nat} (h : ∀ a, (f a).sh n) (l : List α) : ∀ d ∈ l.map f, d.sh n := fun d hd => by
  obtain ⟨a, _, rfl⟩ := List.mem_map.mp hd
  exact h a
theorem sh_is (ws : List Int) : (encIs ws).sh 1 := sh_list (sh_map (sh_int' 0) ws)
theorem sh_sts (ss : List Sta) : (encSts ss).sh 2 := sh_list (sh_map sh_st ss)
theorem sh_rm (r : Rm) : r.enc.sh 1 := sh_tuple (n := 0) fun d hd => by
  simp only [List.mem_cons, List.mem_nil_iff, or_false] at hd
  rcases hd with rfl | rfl | rfl <;> exact sh_int' _ _
theorem sh_rg (g : Rg) : g.enc.sh 1 := by
  rw [Rg.enc_eq]
  refine sh_tuple (n := 0) fun d hd => ?_
  cases hf : g.kd.four with
  | true =>
    rw [hf] at hd
    simp only [if_true, List.mem_cons, List.mem_nil_iff, or_false] at hd
    rcases hd with rfl | rfl | rfl | rfl
    · exact sh_str' _ (ok_nm _)
    all_goals exact sh_int' _ _
  | false =>
    rw [hf] at hd
    simp only [Bool.false_eq_true, if_false, List.mem_cons, List.mem_nil_iff, or_false] at hd
    rcases hd with rfl | rfl | rfl
    · exact sh_str' _ (ok_nm _)
    all_goals exact sh_int' _ _
theorem sh_64 {d : D} {n : Nat} (h : d.sh n) (hn : n ≤ 64 := by decide) : d.sh 64 := h.mono hn
end

/-! ### the tick -/
structure StOk (r : Rm) (g : Rg) (s : Sta) : Prop where
  h0 : 0 ≤ s.1
  ht : s.1 ≤ r.top
  sw : s.2.1 = 0 ∨ s.2.1 = 1
  m0 : 0 ≤ s.2.2
  lean : g.kd = .lean → s.2.2 ≤ g.hi - g.lo - 1
  four : g.kd.four = true → s.2.2 ≤ g.tk - 1
  zero : g.kd = .gap ∨ g.kd = .late → s.2.2 = 0
theorem first_ok {r : Rm} {g : Rg} (h : r.Ok) (k : g.Ok r.top) : StOk r g (first r) := by
  refine ⟨h.b0, h.bt, .inl rfl, Int.le_refl _, fun _ => ?_, fun f => ?_, fun _ => rfl⟩
  · have := k.lh
    show 0 ≤ g.hi - g.lo - 1
    omega
  · have := k.k2 f
    show 0 ≤ g.tk - 1
    omega
theorem decid_sw {a b c s : Int} (h : s = 0 ∨ s = 1) : decid a b c s = 0 ∨ decid a b c s = 1 := by
  unfold decid
  split
  · exact .inr rfl
  · split
    · exact .inl rfl
    · exact h
theorem tick_ok {r : Rm} {g : Rg} {s : Sta} {w : Int} (h : r.Ok) (k : g.Ok r.top) (o : StOk r g s) : StOk r g (tick r g s w) := by
  have t6 := h.t6
  have lh := k.lh
  have m0 := o.m0
  have sw := o.sw
  have w0 : 0 ≤ warm r s.1 s.2.1 w ∧ warm r s.1 s.2.1 w ≤ r.top := by unfold warm; omega
  have main : ((setSw g s.1 (warm r s.1 s.2.1 w) s.2.1 s.2.2).1 = 0 ∨ (setSw g s.1 (warm r s.1 s.2.1 w) s.2.1 s.2.2).1 = 1) ∧ 0 ≤ (setSw g s.1 (warm r s.1 s.2.1 w) s.2.1 s.2.2).2 ∧
      (g.kd = .lean → (setSw g s.1 (warm r s.1 s.2.1 w) s.2.1 s.2.2).2 ≤ g.hi - g.lo - 1) ∧ (g.kd.four = true → (setSw g s.1 (warm r s.1 s.2.1 w) s.2.1 s.2.2).2 ≤ g.tk - 1) ∧
      (g.kd = .gap ∨ g.kd = .late → (setSw g s.1 (warm r s.1 s.2.1 w) s.2.1 s.2.2).2 = 0) := by
    unfold setSw
    cases hk : g.kd with
    | gap => exact ⟨decid_sw sw, Int.le_refl _, fun z => (by cases z), fun z => (by cases z), fun _ => rfl⟩
    | late => exact ⟨decid_sw sw, Int.le_refl _, fun z => (by cases z), fun z => (by cases z), fun _ => rfl⟩
    | lean =>
      have ol := o.lean hk
      refine ⟨decid_sw sw, ?_, fun _ => ?_, fun z => (by cases z), fun z => (by rcases z with z | z <;> cases z)⟩
      · show 0 ≤ (if decid (warm r s.1 s.2.1 w) g.lo (g.hi - s.2.2) s.2.1 = 1 then min (s.2.2 + 1) (g.hi - g.lo - 1) else 0 : Int)
        omega
      · show (if decid (warm r s.1 s.2.1 w) g.lo (g.hi - s.2.2) s.2.1 = 1 then min (s.2.2 + 1) (g.hi - g.lo - 1) else 0 : Int) ≤ _
        omega
    | stay =>
      have f : g.kd.four = true := by rw [hk]; rfl
      have o4 := o.four f
      have k2 := k.k2 f
      by_cases hm : 0 < s.2.2
      · simp only [hm, if_true]
        exact ⟨sw, by omega, fun z => (by cases z), fun _ => by omega, fun z => (by rcases z with z | z <;> cases z)⟩
      · simp only [hm, if_false]
        refine ⟨decid_sw sw, ?_, fun z => (by cases z), fun _ => ?_, fun z => (by rcases z with z | z <;> cases z)⟩
        · split <;> omega
        · split <;> omega
    | look =>
      have f : g.kd.four = true := by rw [hk]; rfl
      have o4 := o.four f
      have k2 := k.k2 f
      by_cases hm : 0 < s.2.2
      · simp only [hm, if_true]
        exact ⟨sw, by omega, fun z => (by cases z), fun _ => by omega, fun z => (by rcases z with z | z <;> cases z)⟩
      · simp only [hm, if_false]
        exact ⟨decid_sw sw, by omega, fun z => (by cases z), fun _ => by omega, fun z => (by rcases z with z | z <;> cases z)⟩
  obtain ⟨m1, m2, m3, m4, m5⟩ := main
  exact ⟨w0.1, w0.2, m1, m2, m3, m4, m5⟩
theorem warmL_eq {r : Rm} {a b c : Int} (h : r.Ok) : warmL r a b c = warm r a b c := by
  have t6 := h.t6
  unfold warmL warm
  by_cases hb : b = 1
  · simp only [hb, if_true]
    omega
  · simp only [hb, if_false]
    omega
theorem setL_eq {r : Rm} {g : Rg} {s : Sta} {b h : Int} (k : g.Ok r.top) (o : StOk r g s) : setL g b h s.2.1 s.2.2 = setSw g b h s.2.1 s.2.2 := by
  unfold setL setSw decid
  cases hk : g.kd with
  | gap => simp [Kd.four]
  | late => simp [Kd.four]
  | lean =>
    have ol := o.lean hk
    simp only [Kd.four, Bool.false_eq_true, false_and, if_false, if_true, reduceCtorEq, true_and]
    by_cases hz : (if h ≤ g.lo then 1 else if g.hi - s.2.2 ≤ h then 0 else s.2.1) = 1
    · simp only [hz, if_true]
      have : (if s.2.2 + 1 < g.hi - g.lo then s.2.2 + 1 else s.2.2) = min (s.2.2 + 1) (g.hi - g.lo - 1) := by omega
      rw [this]
    · simp only [hz, if_false]
  | stay =>
    simp only [Kd.four, Bool.false_eq_true, false_and, if_false, if_true, reduceCtorEq, true_and]
    split
    · rfl
    · by_cases hz : (if h ≤ g.lo then 1 else if g.hi ≤ h then 0 else s.2.1) = s.2.1
      · simp only [hz, if_true, ne_eq, not_true_eq_false, if_false]
      · simp only [hz, if_false, ne_eq, not_false_eq_true, if_true]
  | look => simp only [Kd.four, Bool.false_eq_true, false_and, if_false, if_true, reduceCtorEq, true_and]
theorem tickL_eq {r : Rm} {g : Rg} {s : Sta} {w : Int} (h : r.Ok) (k : g.Ok r.top) (o : StOk r g s) : tickL r g s w = tick r g s w := by
  show (warmL r s.1 s.2.1 w, setL g s.1 (warmL r s.1 s.2.1 w) s.2.1 s.2.2) = (warm r s.1 s.2.1 w, setSw g s.1 (warm r s.1 s.2.1 w) s.2.1 s.2.2)
  rw [warmL_eq h, setL_eq k o]
theorem runL_eq {r : Rm} {g : Rg} (h : r.Ok) (k : g.Ok r.top) : ∀ (ws : List Int) (s : Sta), StOk r g s → runL r g s ws = runFrom r g s ws
  | [], _, _ => rfl
  | w :: ws, s, o => by
    rw [runL, runFrom, tickL_eq h k o, runL_eq h k ws _ (tick_ok h k o)]
theorem run_ok {r : Rm} {g : Rg} (h : r.Ok) (k : g.Ok r.top) : ∀ (ws : List Int) (s : Sta), StOk r g s → ∀ t ∈ runFrom r g s ws, StOk r g t
  | [], s, o, t, ht => by
    rw [runFrom, List.mem_singleton] at ht
    exact ht ▸ o
  | w :: ws, s, o, t, ht => by
    rw [runFrom, List.mem_cons] at ht
    rcases ht with rfl | ht
    · exact o
    · exact run_ok h k ws _ (tick_ok h k o) t ht
theorem along_eq {r : Rm} {g : Rg} (h : r.Ok) (k : g.Ok r.top) (ws : List Int) : runL r g (first r) ws = along r g ws := runL_eq h k ws _ (first_ok h k)
theorem along_ok {r : Rm} {g : Rg} (h : r.Ok) (k : g.Ok r.top) (ws : List Int) : ∀ t ∈ along r g ws, StOk r g t := run_ok h k ws _ (first_ok h k)
end HC
/-! HM8: calls at given rooms, regulators, rows. -/
namespace HC
open PySem PySem.Spec PyProof.Rows L2
section
variable {x : Xc} {r : Rm} {g : Rg} {ws : List Int} {Q : D → Prop} {E : Addr → Prop}
theorem pl_rm : r.enc.plain = true := (sh_rm r).pl
theorem pl_rg : g.enc.plain = true := (sh_rg g).pl
theorem pl_is : (encIs ws).plain = true := (sh_is ws).pl
theorem spEx_ok {α : Type} {enc : α → List D} {pre : α → Prop} {res : α → Except Addr D} {a : α} {d : D} (p : pre a) (e : res a = .ok d) (q : Q d) : spEx enc pre res (enc a) Q E := ⟨a, rfl, p, by rw [e]; exact q⟩
structure Given (r : Rm) (g : Rg) (ws : List Int) : Prop where
  ok : r.Ok
  gk : g.Ok r.top
  hl : ws.length ≤ 60
  hb : ∀ w ∈ ws, 1 ≤ w ∧ w ≤ 3
theorem Given.chk (G : Given r g ws) {k : Rm → Rg → List Int → Ex} : chkRow x (r.enc, g.enc, encIs ws) k = k r g ws := by
  unfold chkRow chkRg
  have e1 : isForF g.enc (topOf r.enc) = true := (rg_enc G.gk).1
  simp only [room_enc G.ok, e1, (row_enc G.hl G.hb).1, (rg_enc G.gk).2, (row_enc G.hl G.hb).2, if_true]
  rfl
theorem Given.pl (G : Given r g ws) : pl3 (r.enc, g.enc, encIs ws) := ⟨pl_rm, pl_rg, pl_is⟩
theorem at_states_along (G : Given r g ws) (q : Q (encSts (along r g ws))) : sp_states_along x [r.enc, g.enc, encIs ws] Q E := spEx_ok (a := (r.enc, g.enc, encIs ws)) G.pl G.chk q
theorem at_run (G : Given r g ws) (q : Q (encIs ((along r g ws).tail.map (·.2.1)))) : sp_run x [r.enc, g.enc, encIs ws] Q E := spEx_ok (a := (r.enc, g.enc, encIs ws)) G.pl G.chk q
theorem at_heats_of (G : Given r g ws) (q : Q (encIs ((along r g ws).map (·.1)))) : sp_heats_of x [r.enc, g.enc, encIs ws] Q E := spEx_ok (a := (r.enc, g.enc, encIs ws)) G.pl G.chk q
theorem at_state_after (G : Given r g ws) (q : Q (encSt (lastSt r (along r g ws)))) : sp_state_after x [r.enc, g.enc, encIs ws] Q E := spEx_ok (a := (r.enc, g.enc, encIs ws)) G.pl G.chk q
theorem at_count_clicks (G : Given r g ws) (q : Q (.int (clicksOf ((along r g ws).map (·.2.1))))) : sp_count_clicks x [r.enc, g.enc, encIs ws] Q E := spEx_ok (a := (r.enc, g.enc, encIs ws)) G.pl G.chk q
theorem at_marks_of (G : Given r g ws) {i : Int} (i0 : 0 ≤ i) (i1 : i ≤ 1) (q : Q (.list ((along r g ws).tail.map (encMark i)))) : sp_marks_of x [r.enc, g.enc, encIs ws, .int i] Q E := ⟨(r.enc, g.enc, encIs ws, .int i), rfl, ⟨G.pl, rfl⟩, by
  show match chkRow x (r.enc, g.enc, encIs ws) fun r g ws => if isIntF (.int i) 0 1 = true then .ok (.list ((along r g ws).tail.map (encMark i))) else .error x.badNumber with
    | .ok d => Q d
    | .error c => E c
  rw [G.chk, if_pos (by simp [isIntF, i0, i1])]
  exact q⟩
theorem at_is_room (h : r.Ok) (q : Q (.bool true)) : sp_is_room [r.enc] Q E := ⟨r.enc, rfl, pl_rm, by show Q (.bool (isRoomF r.enc)); rw [room_enc h]; exact q⟩
theorem at_is_row (hl : ws.length ≤ 60) (hb : ∀ w ∈ ws, 1 ≤ w ∧ w ≤ 3) (q : Q (.bool true)) : sp_is_row [encIs ws] Q E := ⟨encIs ws, rfl, pl_is, by show Q (.bool (isRowF (encIs ws))); rw [(row_enc hl hb).1]; exact q⟩
theorem at_is_regulator (h : r.Ok) (k : g.Ok r.top) (q : Q (.bool true)) : sp_is_regulator x [r.enc, g.enc] Q E := ⟨(r.enc, g.enc), rfl, ⟨pl_rm, pl_rg⟩, by
  have e1 : isForF g.enc (topOf r.enc) = true := (rg_enc k).1
  show match (if isRoomF r.enc = true then .ok (.bool (isForF g.enc (topOf r.enc))) else .error x.badRoom : Ex) with
    | .ok d => Q d
    | .error c => E c
  rw [if_pos (room_enc h), e1]
  exact q⟩
theorem Rg.Ok.mono {t u : Int} (k : g.Ok t) (h : t ≤ u) : g.Ok u := ⟨k.l0, k.lh, Int.le_trans k.ht h, k.k2, k.k3, k.k0⟩
theorem at_plain_name (h : r.Ok) (k : g.Ok r.top) (q : Q (.str g.kd.nm)) : sp_plain_name x [g.enc] Q E := ⟨g.enc, rfl, pl_rg, by
  have k10 : g.Ok 10 := k.mono h.t10
  show match (if isForF g.enc 10 = true then .ok (.str (rgOf g.enc).kd.nm) else .error x.badRegulator : Ex) with
    | .ok d => Q d
    | .error c => E c
  rw [if_pos (rg_enc k10).1, (rg_enc k10).2]
  exact q⟩
end
/-- a loop that only looks -/
theorem loop_chk {α : Type} (enc : α → D) (i : Nat) {body : TSD} {e : En} {r : Env} : ∀ (l : List α) (sl : Sl), (∀ a ∈ l, ∀ e' : En, e'.nx (r.set i (.val (enc a))) → body e' (r.set i (.val (enc a)))) → (∀ sl, e.nx (r.set i sl)) → loopW (gN i) body e (l.map enc) (r.set i sl)
  | [], sl, _, q => q sl
  | a :: l, sl, h, q => by
    refine ⟨r.set i (.val (enc a)), by show some ((r.set i sl).set i (.val (enc a))) = _; rw [List.set_set], ?_⟩
    exact h a (by simp) _ (loop_chk enc i l (.val (enc a)) (fun b hb => h b (List.mem_cons_of_mem _ hb)) q)
theorem clicks_range : ∀ l : List Int, ((List.range (l.length - 1)).filter fun k => !decide (l[k]? = l[k + 1]?)).length = clicksOf l
  | [] => rfl
  | [a] => rfl
  | a :: b :: r => by
    have ih := clicks_range (b :: r)
    have e : (a :: b :: r).length - 1 = ((b :: r).length - 1) + 1 := by simp
    rw [e, List.range_succ_eq_map, clicksOf]
    have ih' : ((List.map Nat.succ (List.range ((b :: r).length - 1))).filter fun k => !decide ((a :: b :: r)[k]? = (a :: b :: r)[k + 1]?)).length = clicksOf (b :: r) := by
      rw [List.filter_map, List.length_map, ← ih]
      rfl
    by_cases h : a = b
    · rw [List.filter_cons_of_neg (by simp [h]), if_pos h, Nat.zero_add]
      exact ih'
    · rw [List.filter_cons_of_pos (by simp [h]), if_neg h, List.length_cons, Nat.add_comm]
      exact congrArg (1 + ·) ih'
end HC
/-! HS2: dicts of typed things; all states that come. -/
namespace HC
open PySem PySem.Spec PyProof.Rows L2
/-! ### dicts of typed things -/
section
variable {α β : Type} [DecidableEq α]
def lkp : List (α × β) → α → Option β
  | [], _ => none
  | (x, b) :: r, a => if x = a then some b else lkp r a
def putL (l : List (α × β)) (a : α) (b : β) : List (α × β) := if (lkp l a).isSome = true then l.map (fun p => if p.1 = a then (p.1, b) else p) else l ++ [(a, b)]
theorem lkp_none {l : List (α × β)} {a : α} : lkp l a = none ↔ a ∉ l.map (·.1) := by
  induction l with
  | nil => simp [lkp]
  | cons p l ih =>
    obtain ⟨x, b⟩ := p
    rw [lkp]
    by_cases h : x = a
    · rw [if_pos h]; simp [h]
    · rw [if_neg h, ih]
      have : ¬ a = x := fun z => h z.symm
      simp [this]
theorem lkp_some {l : List (α × β)} {a : α} : (lkp l a).isSome = decide (a ∈ l.map (·.1)) := by
  by_cases h : a ∈ l.map (·.1)
  · rw [decide_eq_true h]
    cases e : lkp l a with
    | none => exact absurd h (lkp_none.mp e)
    | some b => rfl
  · rw [decide_eq_false h, lkp_none.mpr h]
    rfl
theorem lkp_mem {l : List (α × β)} {a : α} {b : β} (h : lkp l a = some b) : (a, b) ∈ l := by
  induction l with
  | nil => cases h
  | cons p l ih =>
    obtain ⟨x, c⟩ := p
    rw [lkp] at h
    by_cases e : x = a
    · rw [if_pos e] at h
      cases h
      subst e
      simp
    · rw [if_neg e] at h
      exact List.mem_cons_of_mem _ (ih h)
theorem lkp_of {l : List (α × β)} {a : α} {b : β} (hn : (l.map (·.1)).Nodup) (h : (a, b) ∈ l) : lkp l a = some b := by
  induction l with
  | nil => cases h
  | cons p l ih =>
    obtain ⟨x, c⟩ := p
    rw [List.map_cons, List.nodup_cons] at hn
    rw [lkp]
    rcases List.mem_cons.mp h with e | h
    · cases e; rw [if_pos rfl]
    · have : ¬ x = a := fun z => hn.1 (by rw [z]; exact List.mem_map.mpr ⟨_, h, rfl⟩)
      rw [if_neg this]
      exact ih hn.2 h
theorem putL_new {l : List (α × β)} {a : α} {b : β} (h : a ∉ l.map (·.1)) : putL l a b = l ++ [(a, b)] := by
  unfold putL
  rw [lkp_none.mpr h]
  rfl
variable {f : α → NestedKey} {g : β → D}
def encL (f : α → NestedKey) (g : β → D) (l : List (α × β)) : List (NestedKey × D) := l.map fun p => (f p.1, g p.2)
theorem get_encL (hf : ∀ a b, f a = f b → a = b) (l : List (α × β)) (a : α) : kvGet (encL f g l) (f a) = (lkp l a).map g := by
  induction l with
  | nil => rfl
  | cons p l ih =>
    obtain ⟨x, b⟩ := p
    show (if f x = f a then some (g b) else kvGet (encL f g l) (f a)) = _
    rw [lkp]
    by_cases h : x = a
    · rw [if_pos h, if_pos (by rw [h])]; rfl
    · rw [if_neg h, if_neg (fun z => h (hf _ _ z)), ih]
theorem put_encL (hf : ∀ a b, f a = f b → a = b) (l : List (α × β)) (a : α) (b : β) : kvPut (encL f g l) (f a) (g b) = encL f g (putL l a b) := by
  unfold kvPut putL
  rw [get_encL hf, Option.isSome_map]
  split
  · unfold encL
    rw [List.map_map, List.map_map]
    refine List.map_congr_left fun p _ => ?_
    show (if f p.1 = f a then (f p.1, g b) else (f p.1, g p.2)) = _
    by_cases h : p.1 = a
    · rw [if_pos (by rw [h])]
      show _ = (f (if p.1 = a then (p.1, b) else p).1, g (if p.1 = a then (p.1, b) else p).2)
      rw [if_pos h]
    · rw [if_neg (fun z => h (hf _ _ z))]
      show _ = (f (if p.1 = a then (p.1, b) else p).1, g (if p.1 = a then (p.1, b) else p).2)
      rw [if_neg h]
  · unfold encL
    rw [List.map_append]
    rfl
end
/-! ### states as keys -/
def stK (s : Sta) : NestedKey := .tup [.num s.1, .num s.2.1, .num s.2.2]
theorem stK_inj (a b : Sta) (h : stK a = stK b) : a = b := by
  obtain ⟨a1, a2, a3⟩ := a
  obtain ⟨b1, b2, b3⟩ := b
  simp only [stK, NestedKey.tup.injEq, List.cons.injEq, NestedKey.num.injEq, and_true] at h
  obtain ⟨h1, h2, h3⟩ := h
  subst h1 h2 h3
  rfl
theorem stK_keyD (s : Sta) : keyD (stK s) = encSt s := rfl
theorem stK_depth (s : Sta) : (stK s).depth ≤ 8 := by show 1 ≤ 8; decide
section
variable {β : Type} {g : β → D} {l : List (Sta × β)} {s : Sta} {Q : D → Prop}
def encSd (g : β → D) (l : List (Sta × β)) : D := .tdict (encL stK g l)
theorem fIx_sd {b : β} (h : lkp l s = some b) (q : Q (g b)) : fIx (encSd g l) (encSt s) Q := ⟨_, g b, rfl, stK_depth s, by rw [show NestedKey.tup _ = stK s from rfl, get_encL stK_inj, h]; rfl, q⟩
theorem fIn_sd (q : Q (.bool (lkp l s).isSome)) : fIn (encSt s) (encSd g l) Q := ⟨_, rfl, stK_depth s, by
  show Q (.bool (kvGet (encL stK g l) (stK s)).isSome)
  rw [get_encL stK_inj, Option.isSome_map]
  exact q⟩
theorem fNotIn_sd (q : Q (.bool (!(lkp l s).isSome))) : fNotIn (encSt s) (encSd g l) Q := ⟨_, rfl, stK_depth s, by
  show Q (.bool (!(kvGet (encL stK g l) (stK s)).isSome))
  rw [get_encL stK_inj, Option.isSome_map]
  exact q⟩
theorem keys_sd : (encL stK g l).map (fun p => keyD p.1) = (l.map (·.1)).map encSt := by
  unfold encL
  rw [List.map_map, List.map_map]
  rfl
theorem gLen_sd : gLen [encSd g l] Q = Q (.int l.length) := by
  show Q (.int (encL stK g l).length) = _
  unfold encL
  rw [List.length_map]
end
/-! ### breadth first -/
abbrev Rows := List (Sta × List Int)
def encRows (l : Rows) : D := encSd encIs l
def visit1 (r : Rm) (g : Rg) (p : Sta × List Int) (acc : Rows) (w : Int) : Rows := if (lkp acc (tick r g p.1 w)).isSome = true then acc else acc ++ [(tick r g p.1 w, p.2 ++ [w])]
def visit (r : Rm) (g : Rg) (p : Sta × List Int) (acc : Rows) : Rows := visit1 r g p (visit1 r g p (visit1 r g p acc 1) 2) 3
def bfs (r : Rm) (g : Rg) : Nat → Nat → Rows → Rows
  | 0, _, acc => acc
  | n + 1, here, acc => match acc[here]? with
    | none => acc
    | some p => bfs r g n (here + 1) (visit r g p acc)
def rowsL (r : Rm) (g : Rg) : Rows := bfs r g 300 0 [(first r, [])]
def ds_WEATHERS : List D := [.int 1, .int 2, .int 3]
def d_WEATHERS : D := .tuple ds_WEATHERS
def sp_rows_of : SpD := spOf (fun a : Rm × Rg => [a.1.enc, a.2.enc]) (fun a => a.1.Ok ∧ a.2.Ok a.1.top) (fun a => encRows (rowsL a.1 a.2))
theorem mo_rows_of : MonoSp 2 sp_rows_of := mo_spOf fun _ => rfl
end HC
/-! HD2: denotations, printed by tools/gen.py. -/
namespace HC
open PySem PySem.Spec PyProof.Rows L2
def t_rows_of : TSD :=
  sSeq (sPar3 2 3 4 (xCons (xOwn (wDisp1 (wCall sp_first_state (wCons (wVar 0) wNil)) (wLst wNil))) (xCons (xOwn (wLst (wCons (wCall sp_first_state (wCons (wVar 0) wNil)) wNil))) (xCons (xVal (wC (.int 0))) xNil))))
    (sSeq (sWhile (bTest (wOp2 fLt (wPeek 4) (wB gLen (wCons (wPeek 3) wNil)))) (sSeq (sFor (iSeq (wC d_WEATHERS)) (gN 5) (sSeq (sAsg 6 (xVal (wCall sp_step (wCons (wVar 0) (wCons (wVar 1) (wCons (wOp2 fIx (wPeek 3) (wPeek 4)) (wCons (wVar 5) wNil)))))))
    (sIf (bTest (wOp2 fNotIn (wPeek 6) (wPeek 2))) (sSeq (sSet 2 (wOp2 fAdd (wOp2 fIx (wPeek 2) (wOp2 fIx (wPeek 3) (wPeek 4))) (wLst (wCons (wVar 5) wNil))) (wPeek 6))
    (sApp 3 (wVar 6))) sNil)))
    (sAug 4 (wC (.int 1)))))
    (sFrz 2 (sRet (wVar 2))))
end HC
/-! HM9: all states that come. -/
namespace HC
open PySem PySem.Spec PyProof.Rows L2
/-! ### how many states there are -/
theorem nodup_lt : ∀ (n : Nat) (l : List Nat), l.Nodup → (∀ x ∈ l, x < n) → l.length ≤ n
  | 0, l, _, h => by
    cases l with
    | nil => exact Nat.le_refl _
    | cons x _ => exact absurd (h x (by simp)) (Nat.not_lt_zero _)
  | n + 1, l, hn, h => by
    have h1 : (l.filter fun x => decide (x ≠ n)).length ≤ n := nodup_lt n _ (hn.filter _) fun x hx => by
      have := List.mem_filter.mp hx
      have h2 := h x this.1
      have h3 : x ≠ n := by simpa using this.2
      omega
    have h2 : l.length ≤ (l.filter fun x => decide (x ≠ n)).length + 1 := by
      clear h h1
      induction l with
      | nil => simp
      | cons y l ih =>
        rw [List.nodup_cons] at hn
        by_cases e : y = n
        · subst e
          rw [List.filter_cons_of_neg (by simp)]
          have : l.filter (fun x => decide (x ≠ y)) = l := List.filter_eq_self.mpr fun x hx => by
            have : x ≠ y := fun z => hn.1 (z ▸ hx)
            simpa using this
          rw [this]
          exact Nat.le_refl _
        · rw [List.filter_cons_of_pos (by simpa using e), List.length_cons, List.length_cons]
          have := ih hn.2
          omega
    omega
def codeSt (s : Sta) : Nat := s.1.toNat * 22 + s.2.1.toNat * 11 + s.2.2.toNat
/-- states as small as they come to be -/
structure Tiny (s : Sta) : Prop where
  h0 : 0 ≤ s.1
  h10 : s.1 ≤ 10
  sw0 : 0 ≤ s.2.1
  sw1 : s.2.1 ≤ 1
  m0 : 0 ≤ s.2.2
  m10 : s.2.2 ≤ 10
theorem StOk.tiny {r : Rm} {g : Rg} {s : Sta} (h : r.Ok) (k : g.Ok r.top) (o : StOk r g s) : Tiny s := by
  have t10 := h.t10
  have ht := o.ht
  have g1 := k.ht
  have g2 := k.l0
  refine ⟨o.h0, by omega, ?_, ?_, o.m0, ?_⟩
  · rcases o.sw with e | e <;> omega
  · rcases o.sw with e | e <;> omega
  · by_cases hf : g.kd.four = true
    · have := o.four hf
      have := k.k3 hf
      omega
    · cases hk : g.kd with
      | lean => have := o.lean hk; omega
      | gap => have := o.zero (.inl hk); omega
      | late => have := o.zero (.inr hk); omega
      | stay => rw [hk] at hf; exact absurd rfl hf
      | look => rw [hk] at hf; exact absurd rfl hf
theorem codeSt_inj {s t : Sta} (hs : Tiny s) (ht : Tiny t) (h : codeSt s = codeSt t) : s = t := by
  obtain ⟨a1, a2, a3⟩ := s
  obtain ⟨b1, b2, b3⟩ := t
  obtain ⟨h1, h2, h3, h4, h5, h6⟩ := hs
  obtain ⟨g1, g2, g3, g4, g5, g6⟩ := ht
  simp only [codeSt] at *
  have e1 : a1 = b1 := by omega
  have e2 : a2 = b2 := by omega
  have e3 : a3 = b3 := by omega
  subst e1 e2 e3
  rfl
theorem codeSt_lt {s : Sta} (hs : Tiny s) : codeSt s < 242 := by
  obtain ⟨h1, h2, h3, h4, h5, h6⟩ := hs
  unfold codeSt
  omega
theorem few_states {l : List Sta} (hn : l.Nodup) (h : ∀ s ∈ l, Tiny s) : l.length ≤ 242 := by
  have := nodup_lt 242 (l.map codeSt) ?_ fun x hx => ?_
  · rwa [List.length_map] at this
  · induction l with
    | nil => simp
    | cons a l ih =>
      rw [List.nodup_cons] at hn
      rw [List.map_cons, List.nodup_cons]
      refine ⟨fun z => ?_, ih hn.2 fun s hs => h s (List.mem_cons_of_mem _ hs)⟩
      obtain ⟨b, hb, e⟩ := List.mem_map.mp z
      have := codeSt_inj (h b (List.mem_cons_of_mem _ hb)) (h a (by simp)) e
      exact hn.1 (this ▸ hb)
  · obtain ⟨s, hs, rfl⟩ := List.mem_map.mp hx
    exact codeSt_lt (h s hs)
/-! ### what breadth first keeps -/
structure RowsOk (r : Rm) (g : Rg) (l : Rows) : Prop where
  nd : (l.map (·.1)).Nodup
  ok : ∀ p ∈ l, StOk r g p.1
theorem RowsOk.len {r : Rm} {g : Rg} {l : Rows} (h : r.Ok) (k : g.Ok r.top) (o : RowsOk r g l) : l.length ≤ 242 := by
  have := few_states o.nd fun s hs => by
    obtain ⟨p, hp, rfl⟩ := List.mem_map.mp hs
    exact (o.ok p hp).tiny h k
  rwa [List.length_map] at this
theorem visit1_ok {r : Rm} {g : Rg} {l : Rows} {p : Sta × List Int} {w : Int} (h : r.Ok) (k : g.Ok r.top) (o : RowsOk r g l) (hp : StOk r g p.1) : RowsOk r g (visit1 r g p l w) := by
  unfold visit1
  split
  · exact o
  · rename_i hz
    have hn : lkp l (tick r g p.1 w) = none := by
      cases e : lkp l (tick r g p.1 w) with
      | none => rfl
      | some b => rw [e] at hz; exact absurd rfl hz
    refine ⟨?_, fun q hq => ?_⟩
    · rw [List.map_append, List.nodup_append]
      refine ⟨o.nd, by simp, fun a ha b hb z => ?_⟩
      simp at hb
      rw [z, hb] at ha
      exact lkp_none.mp hn ha
    · rcases List.mem_append.mp hq with hq | hq
      · exact o.ok q hq
      · rw [List.mem_singleton.mp hq]
        exact tick_ok h k hp
theorem visit1_pre {r : Rm} {g : Rg} {l : Rows} {p : Sta × List Int} {w : Int} : ∃ m, visit1 r g p l w = l ++ m := by
  unfold visit1
  split
  · exact ⟨[], by simp⟩
  · exact ⟨_, rfl⟩
theorem visit_ok {r : Rm} {g : Rg} {l : Rows} {p : Sta × List Int} (h : r.Ok) (k : g.Ok r.top) (o : RowsOk r g l) (hp : StOk r g p.1) : RowsOk r g (visit r g p l) := visit1_ok h k (visit1_ok h k (visit1_ok h k o hp) hp) hp
theorem visit_pre {r : Rm} {g : Rg} {l : Rows} {p : Sta × List Int} : ∃ m, visit r g p l = l ++ m := by
  unfold visit
  obtain ⟨a, ea⟩ := visit1_pre (r := r) (g := g) (l := l) (p := p) (w := 1)
  rw [ea]
  obtain ⟨b, eb⟩ := visit1_pre (r := r) (g := g) (l := l ++ a) (p := p) (w := 2)
  rw [eb]
  obtain ⟨c, ec⟩ := visit1_pre (r := r) (g := g) (l := l ++ a ++ b) (p := p) (w := 3)
  rw [ec]
  exact ⟨a ++ b ++ c, by simp⟩
local macro_rules | `(tactic| walk_at "ds") => `(tactic| try simp only [endD, startD, startT, List.map_cons, List.map_nil, List.length_cons, List.length_nil, List.replicate, List.cons_append, List.nil_append, Nat.reduceSub, Nat.reduceAdd, sSeq, sRet, sIf, sNil, sAsg, sUnp, sExpr, sPar2, sPar3, xCons, xNil, xVal, xOwn, bTest, bNot, bAnd, bOr, wVar, wPeek, slot, wC, wOp2, wB, wCons, wNil, wTup, wLst, wIf, wAnd, wOr, wNot, wNeg, wCall, wCallT, wSl, wPart, wNoPart, List.set, ex1, gT_t, gT_st, gT_pr, gC_c, gN_c, gNil_c, sRaise, wChain, sFrz, frz, wIsi, wTabIn, wTabAt, sAug, wDisp1, wNewT, Bool.false_eq_true, if_false, if_true,
  fAdd_i, fAdd_s, fAdd_l, fAdd_t, fSub_i, fLt_i, fLe_i, fGt_i, fGe_i, fEq_i, fNe_i, fIs_b, fIsN_b, gMin_2, gMax_2, gLen_l, gLen_t, fIx_rm0, fIx_rm1, fIx_rm2, fIx_st0, fIx_st1, fIx_st2, fIx_rg0, fIx_rg1, fIx_rg2, fSl_rg, fEq_gap, fEq_stay, fEq_late, fEq_look, fEq_lean])
theorem sSet_td {i : Nat} {t tj : TP} {e : En} {r : Env} {kvs : List (NestedKey × D)} (h : slot r i = .own (.tdict kvs)) (q : t r (fun d => tj r (fun j => ∃ ks, j = .tuple (keysD ks) ∧ (NestedKey.tup ks).depth ≤ 8 ∧ kvs.length < sizeLine ∧ e.nx (r.set i (.own (.tdict (kvPut kvs (.tup ks) d))))) (e.ex r)) (e.ex r)) : sSet i t tj e r := by
  unfold sSet
  rw [h]
  exact q
theorem put_sd {β : Type} {g : β → D} {l : List (Sta × β)} {s : Sta} {b : β} {ks : List NestedKey} (h : ks = [.num s.1, .num s.2.1, .num s.2.2]) : D.tdict (kvPut (encL stK g l) (.tup ks) (g b)) = encSd g (putL l s b) := by
  subst h
  exact congrArg D.tdict (put_encL stK_inj l s b)
theorem len_sd {β : Type} {g : β → D} {l : List (Sta × β)} (hl : l.length < 1000) : (encL stK g l).length < sizeLine := by
  unfold encL
  rw [List.length_map]
  exact small1000 (by omega)
/-- the frame of rows_of -/
def envR (r : Rm) (g : Rg) (l : Rows) (here : Nat) (a b : Sl) : Env := [.val r.enc, .val g.enc, .own (encRows l), .own (.list ((l.map (·.1)).map encSt)), .val (.int here), a, b]
def bodyR : TSD := sSeq (sAsg 6 (xVal (wCall sp_step (wCons (wVar 0) (wCons (wVar 1) (wCons (wOp2 fIx (wPeek 3) (wPeek 4)) (wCons (wVar 5) wNil)))))))
    (sIf (bTest (wOp2 fNotIn (wPeek 6) (wPeek 2))) (sSeq (sSet 2 (wOp2 fAdd (wOp2 fIx (wPeek 2) (wOp2 fIx (wPeek 3) (wPeek 4))) (wLst (wCons (wVar 5) wNil))) (wPeek 6))
    (sApp 3 (wVar 6))) sNil)
theorem body_rows {r : Rm} {g : Rg} {l : Rows} {here : Nat} {p : Sta × List Int} {w : Int} {b : Sl} {e : En} (hl : l.length ≤ 999) (hp : l[here]? = some p) (hn : (l.map (·.1)).Nodup) (hr : p.2.length ≤ 998)
    (q : ∀ b, e.nx (envR r g (visit1 r g p l w) here (.val (.int w)) b)) : bodyR e (envR r g l here (.val (.int w)) b) := by
  have hat : atI ((l.map (·.1)).map encSt) (here : Int) = some (encSt p.1) := atI_nat (by rw [List.map_map, List.getElem?_map, hp]; rfl)
  have hlk : lkp l p.1 = some p.2 := lkp_of hn (List.mem_of_getElem? hp)
  unfold bodyR envR
  walk_at "ds"
  rw [fIx_l]
  refine ⟨_, hat, in_step ?_⟩
  walk_at "ds"
  refine fNotIn_sd ?_
  cases hz : (lkp l (tick r g p.1 w)).isSome with
  | true =>
    have := q (.val (encSt (tick r g p.1 w)))
    unfold visit1 at this
    rw [if_pos hz] at this
    exact this
  | false =>
    have hnot : tick r g p.1 w ∉ l.map (·.1) := by
      apply lkp_none.mp
      cases e : lkp l (tick r g p.1 w) with
      | none => rfl
      | some b => rw [e] at hz; cases hz
    have := q (.val (encSt (tick r g p.1 w)))
    unfold visit1 at this
    rw [if_neg (by rw [hz]; exact Bool.false_ne_true)] at this
    simp only [Bool.not_false, if_true]
    refine sSet_td (kvs := encL stK encIs l) rfl ?_
    walk_at "ds"
    rw [fIx_l]
    refine ⟨_, hat, fIx_sd hlk ?_⟩
    refine ⟨le1000 (by rw [List.length_map]; show p.2.length + 1 ≤ 1000; omega), ?_⟩
    have e2 : D.list (p.2.map D.int ++ [D.int w]) = encIs (p.2 ++ [w]) := by rw [encIs, List.map_append]; rfl
    rw [e2]
    refine ⟨_, rfl, stK_depth _, len_sd (by omega), ?_⟩
    rw [put_sd (g := encIs) (l := l) (s := tick r g p.1 w) (b := p.2 ++ [w]) rfl]
    unfold sApp
    walk_at "ds"
    refine ⟨small1000 (by rw [List.length_map, List.length_map]; omega), ?_⟩
    rw [putL_new hnot]
    unfold envR encRows at this
    rw [List.map_append, List.map_append] at this
    exact this
theorem sem_rows_of : ∀ ds Q E, sp_rows_of ds Q E → t_rows_of (endD Q E) (startD 7 ds) := by
  rintro _ Q E ⟨⟨r, g⟩, rfl, ⟨ok, gk⟩, q⟩
  replace ok : r.Ok := ok
  replace gk : g.Ok r.top := gk
  replace q : Q (encRows (rowsL r g)) := q
  unfold t_rows_of
  walk_at "ds"
  refine in_first ⟨[.num r.beg, .num 0, .num 0], rfl, stK_depth (first r), in_first ?_⟩
  unfold sWhile
  refine ⟨fun m env => ∃ (l : Rows) (here : Nat) (a b : Sl), m = 243 - here ∧ here ≤ l.length ∧ RowsOk r g l ∧ (∀ p ∈ l, p.2.length ≤ l.length) ∧ bfs r g (300 - here) here l = rowsL r g ∧ env = envR r g l here a b,
    ⟨243, [(first r, [])], 0, .un, .un, rfl, by simp, ⟨by simp, fun p hp => by rw [List.mem_singleton.mp hp]; exact first_ok ok gk⟩, by simp, rfl, rfl⟩, ?_⟩
  rintro m env ⟨l, here, a, b, hm, hh, ro, hlen, hb, rfl⟩
  have hl := ro.len ok gk
  unfold envR
  walk_at "ds"
  rw [List.length_map, List.length_map]
  by_cases hc : here < l.length
  · refine ite_t (decide_eq_true (by omega)) ?_
    obtain ⟨p, hp⟩ : ∃ p, l[here]? = some p := ⟨_, List.getElem?_eq_getElem hc⟩
    have pm := List.mem_of_getElem? hp
    have pok := ro.ok p pm
    have plen := hlen p pm
    have r1 := visit1_ok (w := 1) ok gk ro pok
    have r2 := visit1_ok (w := 2) ok gk r1 pok
    have r3 := visit1_ok (w := 3) ok gk r2 pok
    have l1 := r1.len ok gk
    have l2 := r2.len ok gk
    have ext : ∀ {l' : Rows} {w : Int}, l'[here]? = some p → (visit1 r g p l' w)[here]? = some p := fun {l' w} h => by
      obtain ⟨m, e⟩ := visit1_pre (r := r) (g := g) (l := l') (p := p) (w := w)
      rw [e, List.getElem?_append_left (List.getElem?_eq_some_iff.mp h).1]
      exact h
    have hp1 := ext (w := 1) hp
    have hp2 := ext (w := 2) hp1
    have grow : ∀ {l' : Rows} {w : Int}, l'.length ≤ (visit1 r g p l' w).length := fun {l' w} => by
      obtain ⟨m, e⟩ := visit1_pre (r := r) (g := g) (l := l') (p := p) (w := w)
      rw [e, List.length_append]
      omega
    have g1 := grow (l' := l) (w := 1)
    have g2 := grow (l' := visit1 r g p l 1) (w := 2)
    have g3 := grow (l' := visit1 r g p (visit1 r g p l 1) 2) (w := 3)
    have lens : ∀ {l' : Rows} {w : Int}, (∀ q ∈ l', q.2.length ≤ l'.length) → p ∈ l' → ∀ q ∈ visit1 r g p l' w, q.2.length ≤ (visit1 r g p l' w).length := fun {l' w} h hm q hq => by
      unfold visit1 at hq ⊢
      split at hq
      · rename_i hz
        rw [if_pos hz]
        exact h q hq
      · rename_i hz
        rw [if_neg hz, List.length_append]
        rcases List.mem_append.mp hq with hq | hq
        · have := h q hq
          omega
        · rw [List.mem_singleton.mp hq, List.length_append]
          have := h p hm
          simp only [List.length_cons, List.length_nil]
          omega
    have m1 := List.mem_of_getElem? hp1
    have m2 := List.mem_of_getElem? hp2
    have e1 := lens (w := 1) hlen pm
    have e2 := lens (w := 2) e1 m1
    have e3 := lens (w := 3) e2 m2
    refine ⟨envR r g l here (.val (.int 1)) b, rfl, ?_⟩
    refine body_rows (by omega) hp ro.nd (by omega) fun b1 => ?_
    refine ⟨envR r g (visit1 r g p l 1) here (.val (.int 2)) b1, rfl, ?_⟩
    refine body_rows (by omega) hp1 r1.nd (by omega) fun b2 => ?_
    refine ⟨envR r g (visit1 r g p (visit1 r g p l 1) 2) here (.val (.int 3)) b2, rfl, ?_⟩
    refine body_rows (by omega) hp2 r2.nd (by omega) fun b3 => ?_
    refine ⟨243 - (here + 1), by omega, visit r g p l, here + 1, .val (.int 3), b3, rfl, ?_, r3, e3, ?_, ?_⟩
    · show here + 1 ≤ (visit1 r g p (visit1 r g p (visit1 r g p l 1) 2) 3).length
      omega
    · rw [← hb]
      obtain ⟨n, hn⟩ : ∃ n, 300 - here = n + 1 := ⟨299 - here, by omega⟩
      have hn2 : 300 - (here + 1) = n := by omega
      rw [hn, hn2, bfs, hp]
    · rfl
  · refine ite_f (decide_eq_false (by omega)) ?_
    have : l = rowsL r g := by
      rw [← hb]
      obtain ⟨n, hn⟩ : ∃ n, 300 - here = n + 1 := ⟨299 - here, by omega⟩
      rw [hn, bfs, List.getElem?_eq_none (by omega)]
    rw [this]
    exact q
end HC
/-! HS3: families, records, groups: promises. -/
namespace HC
open PySem PySem.Spec PyProof.Rows L2
def famT : List D → Int → Bool := fun ds top => decide (1 ≤ ds.length) && (decide (ds.length ≤ 8) && ds.all fun d => isForF d top)
def isFamF : D → Int → Bool
  | .list ds, top => famT ds top
  | _, _ => false
def chkFam (x : Xc) (a b : D) (k : Ex) : Ex := if isRoomF a = true then (if isFamF b (topOf a) = true then k else .error x.badRegulator) else .error x.badRoom
def sp_check_family (x : Xc) : SpD := spEx (fun a : D × D => [a.1, a.2]) (fun a => a.1.plain = true ∧ a.2.plain = true) (fun a => chkFam x a.1 a.2 (.ok .none))
theorem mo_check_family (x : Xc) : MonoSp 2 (sp_check_family x) := mo_spEx fun _ => rfl
/-- the groups of places with equal things -/
def eqAtD (ds : List D) (i j : Nat) : Bool := match ds[i]?, ds[j]? with
  | some a, some b => deq a b
  | _, _ => false
def firstD (ds : List D) (i : Nat) : Bool := match ds[i]? with
  | some a => !dIn a (ds.take i)
  | none => false
def grpD (ds : List D) : List (List Nat) := ((List.range ds.length).filter (firstD ds)).map fun i => (List.range ds.length).filter fun j => eqAtD ds j i
def encNs (l : List Nat) : D := .list (l.map fun (k : Nat) => D.int (k : Int))
def encGrps (l : List (List Nat)) : D := .list (l.map encNs)
def sp_groups_by : SpD := spOf (fun a : List D => [.list a]) (fun a => a.length ≤ 1000 ∧ ∀ d ∈ a, d.sh 60) (fun a => encGrps (grpD a))
def sp__law_groups : SpD := spOf (fun a : List D => [.list a]) (fun a => a.length ≤ 1000 ∧ ∀ d ∈ a, d.sh 60) (fun a => encGrps (grpD a))
theorem mo_groups_by : MonoSp 1 sp_groups_by := mo_spOf fun _ => rfl
theorem mo__law_groups : MonoSp 1 sp__law_groups := mo_spOf fun _ => rfl
theorem mo_switches_of : MonoSp 3 sp_switches_of := mo_spOf fun _ => rfl
def sws (r : Rm) (g : Rg) (ws : List Int) : List Int := (along r g ws).tail.map (·.2.1)
def sp__law_switches : SpD := spOf (fun a : Rm × Rg × List Int => [a.1.enc, a.2.1.enc, encIs a.2.2]) (fun a => a.1.Ok ∧ a.2.1.Ok a.1.top ∧ a.2.2.length ≤ 999) (fun a => encIs (sws a.1 a.2.1 a.2.2))
theorem mo__law_switches : MonoSp 3 sp__law_switches := mo_spOf fun _ => rfl
/-! ### records -/
abbrev Rec := List Int × List Int
def encRec (c : Rec) : D := .tuple [encIs c.1, encIs c.2]
def barF : Nat → List Int → List Int → Option Nat
  | n, a :: as, b :: bs => if a = b then barF (n + 1) as bs else some n
  | _, _, _ => none
def optN : Option Nat → D
  | some n => .int n
  | none => .none
def barOf (r : Rm) (g : Rg) (c : Rec) : Option Nat := barF 0 (sws r g c.1) c.2
def sp_bar_of : SpD := spOf (fun a : Rm × Rg × Rec => [a.1.enc, a.2.1.enc, encRec a.2.2]) (fun a => a.2.2.1.length ≤ 1000) (fun a => optN (barOf a.1 a.2.1 a.2.2))
theorem mo_bar_of : MonoSp 3 sp_bar_of := mo_spOf fun _ => rfl
def isMarkF : D → Int → Int → Bool := fun d top sight => if sight = 0 then isIntF d 0 1 else match d with
  | .tuple [a, b] => isIntF a 0 1 && isIntF b 0 top
  | _ => false
def isMrowF : D → Int → Int → Bool
  | .list ds, top, sight => decide (ds.length ≤ 60) && ds.all fun d => isMarkF d top sight
  | _, _, _ => false
def lenF : D → Nat
  | .list ds => ds.length
  | _ => 0
def isRecF : D → Bool
  | .tuple [a, b] => isRowF a && (isMrowF b 0 0 && decide (lenF a = lenF b))
  | _ => false
def recOf : D → Rec
  | .tuple [a, b] => (isOf a, isOf b)
  | _ => ([], [])
def sp_is_mark : SpD := spOf (fun a : D × Int × Int => [a.1, .int a.2.1, .int a.2.2]) (fun a => a.1.plain = true) (fun a => .bool (isMarkF a.1 a.2.1 a.2.2))
def sp_is_mark_row : SpD := spOf (fun a : D × Int × Int => [a.1, .int a.2.1, .int a.2.2]) (fun a => a.1.plain = true) (fun a => .bool (isMrowF a.1 a.2.1 a.2.2))
def sp_is_record : SpD := spOf (fun a : D => [a]) (fun a => a.plain = true) (fun a => .bool (isRecF a))
theorem mo_is_mark : MonoSp 3 sp_is_mark := mo_spOf fun _ => rfl
theorem mo_is_mark_row : MonoSp 3 sp_is_mark_row := mo_spOf fun _ => rfl
theorem mo_is_record : MonoSp 1 sp_is_record := mo_spOf fun _ => rfl
/-! ### bars -/
def fstBar (r : Rm) (g : Rg) (n : Nat) : List Rec → Option (Nat × Nat)
  | [] => none
  | c :: cs => match barOf r g c with
    | some k => some (n, k)
    | none => fstBar r g (n + 1) cs
def optP : Option (Nat × Nat) → D
  | some p => .tuple [.int p.1, .int p.2]
  | none => .none
def recsF : List D → Bool := fun ds => decide (1 ≤ ds.length) && (decide (ds.length ≤ 12) && ds.all isRecF)
def isRecsF : D → Bool
  | .list ds => recsF ds
  | _ => false
def lstOf : D → List D
  | .list ds => ds
  | _ => []
def barsL (r : Rm) (gs : List Rg) (cs : List Rec) : List (Option (Nat × Nat)) := gs.map fun g => fstBar r g 0 cs
def chkRecs (x : Xc) (a : D × D × D) (k : Rm → List Rg → List Rec → Ex) : Ex := chkFam x a.1 a.2.1 (if isRecsF a.2.2 = true then k (rmOf a.1) ((lstOf a.2.1).map rgOf) ((lstOf a.2.2).map recOf) else .error x.badMarks)
def sp_bars (x : Xc) : SpD := spEx (fun a : D × D × D => [a.1, a.2.1, a.2.2]) pl3 (fun a => chkRecs x a fun r gs cs => .ok (.list ((barsL r gs cs).map optP)))
def remL (r : Rm) (gs : List Rg) (cs : List Rec) : List Nat := (List.range gs.length).filter fun i => ((barsL r gs cs)[i]?).getD (some (0, 0)) == none
def sp_remains (x : Xc) : SpD := spEx (fun a : D × D × D => [a.1, a.2.1, a.2.2]) pl3 (fun a => chkRecs x a fun r gs cs => .ok (encNs (remL r gs cs)))
def chkOne (x : Xc) (a : D × D × D) (k : Rm → Rg → Rec → Ex) : Ex := chkRg x a.1 a.2.1 (if isRecF a.2.2 = true then k (rmOf a.1) (rgOf a.2.1) (recOf a.2.2) else .error x.badMarks)
def sp_first_bar (x : Xc) : SpD := spEx (fun a : D × D × D => [a.1, a.2.1, a.2.2]) pl3 (fun a => chkOne x a fun r g c => .ok (optN (barOf r g c)))
def sp_made (x : Xc) : SpD := spEx (fun a : D × D × D => [a.1, a.2.1, a.2.2]) pl3 (fun a => chkOne x a fun r g c => .ok (.bool (barOf r g c).isNone))
def sp_groups (x : Xc) : SpD := spEx (fun a : D × D × D => [a.1, a.2.1, a.2.2]) pl3 (fun a => chkFam x a.1 a.2.1 (if isRowF a.2.2 = true then .ok (encGrps (grpD (((lstOf a.2.1).map rgOf).map fun g => encIs (sws (rmOf a.1) g (isOf a.2.2))))) else .error x.badWeather))
def sp__law_true : SpD := spOf (fun a : Bool × Bool => [.bool a.1, .bool a.2]) (fun _ => True) (fun a => .bool (decide (a.1 = a.2)))
theorem mo_bars (x : Xc) : MonoSp 3 (sp_bars x) := mo_spEx fun _ => rfl
theorem mo_remains (x : Xc) : MonoSp 3 (sp_remains x) := mo_spEx fun _ => rfl
theorem mo_first_bar (x : Xc) : MonoSp 3 (sp_first_bar x) := mo_spEx fun _ => rfl
theorem mo_made (x : Xc) : MonoSp 3 (sp_made x) := mo_spEx fun _ => rfl
theorem mo_groups (x : Xc) : MonoSp 3 (sp_groups x) := mo_spEx fun _ => rfl
theorem mo__law_true : MonoSp 2 sp__law_true := mo_spOf fun _ => rfl
end HC
/-! HD3: denotations, printed by tools/gen.py. -/
namespace HC
open PySem PySem.Spec PyProof.Rows L2
def t_check_family (x : Xc) : TSD :=
  sSeq (sExpr (wCall (sp_check_room x) (wCons (wVar 0) wNil)))
    (sIf (bOr (bNot (bTest (wIsi "list" (wPeek 1)))) (bOr (bNot (bTest (wChain fLe fLe (wC (.int 1)) (wB gLen (wCons (wPeek 1) wNil)) (wC (.int 8))))) (bNot (bTest (wB gAll (wCons (wComp [2] (iSeq (wVar 1)) (gN 2) bYes (wCall sp_is_for (wCons (wVar 2) (wCons (wOp2 fIx (wPeek 0) (wC (.int 0))) wNil)))) wNil)))))) (sRaise x.badRegulator) sNil)
def t_groups_by : TSD :=
  sSeq (sAsg 1 (xOwn (wLst wNil)))
    (sSeq (sFor (iEnumD (wVar 0)) (gT (gCons' (gN 2) (gCons' (gN 3) gNil'))) (sIf (bTest (wOp2 fNotIn (wPeek 3) (wSl (wPeek 0) wNoPart (wPart (wPeek 2))))) (sApp 1 (wComp [4] (iRange (wCons (wB gLen (wCons (wPeek 0) wNil)) wNil)) (gN 4) (bTest (wOp2 fEq (wOp2 fIx (wPeek 0) (wPeek 4)) (wPeek 3))) (wVar 4))) sNil))
    (sFrz 1 (sRet (wVar 1))))
def t_switches_of : TSD :=
  sRet (wComp [3] (iSeq (wSl (wCall sp_states_of (wCons (wVar 0) (wCons (wVar 1) (wCons (wVar 2) wNil)))) (wPart (wC (.int 1))) wNoPart)) (gN 3) bYes (wOp2 fIx (wPeek 3) (wC (.int 1))))
def t_groups (x : Xc) : TSD :=
  sSeq (sExpr (wCall (sp_check_family x) (wCons (wVar 0) (wCons (wVar 1) wNil))))
    (sSeq (sExpr (wCall (sp_check_row x) (wCons (wVar 2) wNil)))
    (sRet (wCall sp_groups_by (wCons (wComp [3] (iSeq (wVar 1)) (gN 3) bYes (wCall sp_switches_of (wCons (wVar 0) (wCons (wVar 3) (wCons (wVar 2) wNil))))) wNil))))
def t__law_switches : TP :=
  wComp [3] (iSeq (wSl (wCall sp__law_along (wCons (wVar 0) (wCons (wVar 1) (wCons (wVar 2) wNil)))) (wPart (wC (.int 1))) wNoPart)) (gN 3) bYes (wOp2 fIx (wPeek 3) (wC (.int 1)))
def t__law_groups : TSD :=
  sSeq (sAsg 1 (xVal (wComp [2] (iRange (wCons (wB gLen (wCons (wPeek 0) wNil)) wNil)) (gN 2) (bTest (wOp2 fNotIn (wOp2 fIx (wPeek 0) (wPeek 2)) (wSl (wPeek 0) wNoPart (wPart (wPeek 2))))) (wVar 2))))
    (sRet (wComp [3] (iSeq (wVar 1)) (gN 3) bYes (wComp [2] (iRange (wCons (wB gLen (wCons (wPeek 0) wNil)) wNil)) (gN 2) (bTest (wOp2 fEq (wOp2 fIx (wPeek 0) (wPeek 2)) (wOp2 fIx (wPeek 0) (wPeek 3)))) (wVar 2))))
def t_bar_of : TSD :=
  sSeq (sFor (iEnumZipD (wCall sp_switches_of (wCons (wVar 0) (wCons (wVar 1) (wCons (wOp2 fIx (wPeek 2) (wC (.int 0))) wNil)))) (wOp2 fIx (wPeek 2) (wC (.int 1)))) (gT (gCons' (gN 3) (gCons' (gT (gCons' (gN 4) (gCons' (gN 5) gNil'))) gNil'))) (sIf (bTest (wOp2 fNe (wPeek 4) (wPeek 5))) (sRet (wVar 3)) sNil))
    (sRet (wC .none))
def t_is_mark : TSD :=
  sSeq (sIf (bTest (wOp2 fEq (wPeek 2) (wC (.int 0)))) (sRet (wCall sp_is_int (wCons (wVar 0) (wCons (wC (.int 0)) (wCons (wC (.int 1)) wNil))))) sNil)
    (sSeq (sIf (bOr (bNot (bTest (wIsi "tuple" (wPeek 0)))) (bTest (wOp2 fNe (wB gLen (wCons (wPeek 0) wNil)) (wC (.int 2))))) (sRet (wC (.bool false))) sNil)
    (sRet (wAnd (wCall sp_is_int (wCons (wOp2 fIx (wPeek 0) (wC (.int 0))) (wCons (wC (.int 0)) (wCons (wC (.int 1)) wNil)))) (wCall sp_is_int (wCons (wOp2 fIx (wPeek 0) (wC (.int 1))) (wCons (wC (.int 0)) (wCons (wVar 1) wNil)))))))
def t_is_mark_row : TSD :=
  sSeq (sIf (bOr (bNot (bTest (wIsi "list" (wPeek 0)))) (bTest (wOp2 fGt (wB gLen (wCons (wPeek 0) wNil)) (wC (.int 60))))) (sRet (wC (.bool false))) sNil)
    (sRet (wB gAll (wCons (wComp [3] (iSeq (wVar 0)) (gN 3) bYes (wCall sp_is_mark (wCons (wVar 3) (wCons (wVar 1) (wCons (wVar 2) wNil))))) wNil)))
def t_is_record : TSD :=
  sSeq (sIf (bOr (bNot (bTest (wIsi "tuple" (wPeek 0)))) (bOr (bTest (wOp2 fNe (wB gLen (wCons (wPeek 0) wNil)) (wC (.int 2)))) (bNot (bTest (wCall sp_is_row (wCons (wOp2 fIx (wPeek 0) (wC (.int 0))) wNil)))))) (sRet (wC (.bool false))) sNil)
    (sRet (wAnd (wCall sp_is_mark_row (wCons (wOp2 fIx (wPeek 0) (wC (.int 1))) (wCons (wC (.int 0)) (wCons (wC (.int 0)) wNil)))) (wOp2 fEq (wB gLen (wCons (wOp2 fIx (wPeek 0) (wC (.int 0))) wNil)) (wB gLen (wCons (wOp2 fIx (wPeek 0) (wC (.int 1))) wNil)))))
def t_bars (x : Xc) : TSD :=
  sSeq (sExpr (wCall (sp_check_family x) (wCons (wVar 0) (wCons (wVar 1) wNil))))
    (sSeq (sIf (bOr (bNot (bTest (wIsi "list" (wPeek 2)))) (bOr (bNot (bTest (wChain fLe fLe (wC (.int 1)) (wB gLen (wCons (wPeek 2) wNil)) (wC (.int 12))))) (bNot (bTest (wB gAll (wCons (wComp [7] (iSeq (wVar 2)) (gN 7) bYes (wCall sp_is_record (wCons (wVar 7) wNil))) wNil)))))) (sRaise x.badMarks) sNil)
    (sSeq (sAsg 3 (xOwn (wLst wNil)))
    (sSeq (sFor (iSeq (wVar 1)) (gN 4) (sSeq (sAsg 5 (xVal (wComp [8] (iSeq (wVar 2)) (gN 8) bYes (wCall sp_bar_of (wCons (wVar 0) (wCons (wVar 4) (wCons (wVar 8) wNil)))))))
    (sSeq (sAsg 6 (xVal (wComp [9, 10] (iEnumD (wVar 5)) (gT (gCons' (gN 9) (gCons' (gN 10) gNil'))) (bTest (wOp2 fIsN (wPeek 10) (wC .none))) (wTup (wCons (wVar 9) (wCons (wVar 10) wNil))))))
    (sApp 3 (wIf (bTest (wOp2 fNe (wPeek 6) (wLst wNil))) (wOp2 fIx (wPeek 6) (wC (.int 0))) (wC .none))))))
    (sFrz 3 (sRet (wVar 3))))))
def t_remains (x : Xc) : TSD :=
  sRet (wComp [3, 4] (iEnumD (wCall (sp_bars x) (wCons (wVar 0) (wCons (wVar 1) (wCons (wVar 2) wNil))))) (gT (gCons' (gN 3) (gCons' (gN 4) gNil'))) (bTest (wOp2 fIs (wPeek 4) (wC .none))) (wVar 3))
def t_first_bar (x : Xc) : TSD :=
  sSeq (sExpr (wCall (sp_check_regulator x) (wCons (wVar 0) (wCons (wVar 1) wNil))))
    (sSeq (sIf (bNot (bTest (wCall sp_is_record (wCons (wVar 2) wNil)))) (sRaise x.badMarks) sNil)
    (sRet (wCall sp_bar_of (wCons (wVar 0) (wCons (wVar 1) (wCons (wVar 2) wNil))))))
def t__law_true : TSD :=
  sRet (wAnd (wIsi "bool" (wPeek 0)) (wOp2 fEq (wPeek 0) (wPeek 1)))
def t_made (x : Xc) : TSD :=
  sRet (wOp2 fIs (wCall (sp_first_bar x) (wCons (wVar 0) (wCons (wVar 1) (wCons (wVar 2) wNil)))) (wC .none))
end HC
/-! HM10: families, records, groups. -/
namespace HC
open PySem PySem.Spec PyProof.Rows L2
local macro_rules | `(tactic| walk_at "ds") => `(tactic| try simp only [endD, startD, startT, List.map_cons, List.map_nil, List.length_cons, List.length_nil, List.replicate, List.cons_append, List.nil_append, Nat.reduceSub, Nat.reduceAdd, sSeq, sRet, sIf, sNil, sAsg, sUnp, sExpr, sPar2, sPar3, xCons, xNil, xVal, xOwn, bTest, bNot, bAnd, bOr, wVar, wPeek, slot, wC, wOp2, wB, wCons, wNil, wTup, wLst, wIf, wAnd, wOr, wNot, wNeg, wCall, wCallT, wSl, wPart, wNoPart, List.set, ex1, gT_t, gT_st, gT_pr, gC_c, gN_c, gNil_c, sRaise, wChain, sFrz, frz, wIsi, wTabIn, wTabAt, sAug, wDisp1, wNewT, wComp, iSeq, Bool.false_eq_true, if_false, if_true,
  fAdd_i, fAdd_s, fAdd_l, fAdd_t, fSub_i, fLt_i, fLe_i, fGt_i, fGe_i, fEq_i, fNe_i, fIs_b, fIsN_b, gMin_2, gMax_2, gLen_l, gLen_t, fIx_rm0, fIx_rm1, fIx_rm2, fIx_st0, fIx_st1, fIx_st2, fIx_rg0, fIx_rg1, fIx_rg2, fSl_rg, fEq_gap, fEq_stay, fEq_late, fEq_look, fEq_lean])
section
variable {Q : D → Prop} {E : Addr → Prop}
theorem all_bools {ds : List D} {p : D → Bool} : gAll [.list (ds.map fun d => .bool (p d))] Q = Q (.bool (ds.all p)) := by
  have e := bools_map (ds.map p)
  rw [List.map_map] at e
  refine propext ⟨fun ⟨bs, h, q⟩ => ?_, fun q => ⟨ds.map p, e, ?_⟩⟩
  · have e2 : bs = ds.map p := Option.some.inj (h.symm.trans e)
    subst e2
    rw [List.all_map] at q
    exact q
  · rw [List.all_map]
    exact q
theorem sem_check_family (x : Xc) : ∀ ds Q E, sp_check_family x ds Q E → t_check_family x (endD Q E) (startD 3 ds) := by
  rintro _ Q E ⟨⟨a, b⟩, rfl, ⟨h1, h2⟩, q⟩
  replace h1 : a.plain = true := h1
  replace h2 : b.plain = true := h2
  replace q : outE Q E (chkFam x a b (.ok .none)) := q
  unfold t_check_family
  walk_at "ds"
  refine in_check_room h1 ?_
  unfold chkFam at q
  cases hr : isRoomF a with
  | false =>
    rw [hr] at q
    exact q
  | true =>
    rw [hr] at q
    obtain ⟨r, ok, rfl⟩ := isRoomF_top hr
    replace q : outE Q E (if isFamF b r.top = true then .ok .none else .error x.badRegulator) := q
    simp only [if_true, isT_lst h2, ex1]
    cases b <;> first | exact absurd h2 Bool.false_ne_true | skip
    all_goals simp only [isLstD, Bool.not_true, Bool.not_false, Bool.false_eq_true, if_true, if_false]
    all_goals first | exact q | skip
    rename_i ds
    replace q : outE Q E (if famT ds r.top = true then .ok .none else .error x.badRegulator) := q
    unfold famT at q
    simp only [gLen_l, fLe_i]
    by_cases c1 : 1 ≤ ds.length
    · rw [decide_eq_true c1, Bool.true_and] at q
      rw [decide_eq_true (show (1 : Int) ≤ (ds.length : Int) by omega)]
      simp only [if_true]
      by_cases c2 : ds.length ≤ 8
      · rw [decide_eq_true c2, Bool.true_and] at q
        rw [decide_eq_true (show (ds.length : Int) ≤ 8 by omega)]
        simp only [Bool.not_true, Bool.false_eq_true, if_false]
        refine ⟨le1000 (by omega), ?_⟩
        refine comp_map (fun d => .bool (isForF d r.top)) ds (fun d hd => ⟨_, rfl, fun Q' q' => ?_⟩) ?_
        · show fIx r.enc (.int 0) fun t => sp_is_for [d, t] Q' E0'
          rw [fIx_rm0]
          exact in_is_for (E := E0') (plain_of h2 hd) q'
        · rw [all_bools]
          cases hA : ds.all fun d => isForF d r.top with
          | true => rw [hA] at q; exact q
          | false => rw [hA] at q; exact q
      · rw [decide_eq_false c2, Bool.false_and] at q
        rw [decide_eq_false (show ¬ (ds.length : Int) ≤ 8 by omega)]
        exact q
    · rw [decide_eq_false c1, Bool.false_and] at q
      rw [decide_eq_false (show ¬ (1 : Int) ≤ (ds.length : Int) by omega)]
      exact q
theorem sem_switches_of : ∀ ds Q E, sp_switches_of ds Q E → t_switches_of (endD Q E) (startD 4 ds) := by
  rintro _ Q E ⟨⟨r, g, ws⟩, rfl, hl, q⟩
  replace hl : ws.length ≤ 1000 := hl
  replace q : Q (encIs ((along r g ws).tail.map (·.2.1))) := q
  unfold t_switches_of
  walk_at "ds"
  refine in_states_of hl ?_
  rw [encSts, fSl_l, cutL_tail]
  have hlen := along_length r g (first r) ws
  refine ⟨le1000 (by rw [List.length_tail, List.length_map, along, hlen]; omega), ?_⟩
  rw [← List.map_tail]
  rw [encIs, List.map_map] at q
  refine comp_enc encSt (fun s => .int s.2.1) _ (fun s _ => ⟨_, rfl, fun Q' q' => ?_⟩) q
  show fIx (encSt s) (.int 1) Q'
  rw [fIx_st1]
  exact q'
theorem in_switches_of {r : Rm} {g : Rg} {ws : List Int} (hl : ws.length ≤ 1000) (q : Q (encIs (sws r g ws))) : sp_switches_of [r.enc, g.enc, encIs ws] Q E := ⟨(r, g, ws), rfl, hl, q⟩
theorem sem__law_switches : ∀ ds Q E, sp__law_switches ds Q E → t__law_switches (startD 4 ds) Q E := by
  rintro _ Q E ⟨⟨r, g, ws⟩, rfl, ⟨ok, gk, hl⟩, q⟩
  replace hl : ws.length ≤ 999 := hl
  replace q : Q (encIs ((along r g ws).tail.map (·.2.1))) := q
  unfold t__law_switches
  walk_at "ds"
  refine in__law_along (by omega) ?_
  rw [along_eq ok gk, encSts, fSl_l, cutL_tail]
  have hlen := along_length r g (first r) ws
  refine ⟨le1000 (by rw [List.length_tail, List.length_map, along, hlen]; omega), ?_⟩
  rw [← List.map_tail]
  rw [encIs, List.map_map] at q
  refine comp_enc encSt (fun s => .int s.2.1) _ (fun s _ => ⟨_, rfl, fun Q' q' => ?_⟩) q
  show fIx (encSt s) (.int 1) Q'
  rw [fIx_st1]
  exact q'
theorem in__law_switches {r : Rm} {g : Rg} {ws : List Int} (ok : r.Ok) (gk : g.Ok r.top) (hl : ws.length ≤ 999) (q : Q (encIs (sws r g ws))) : sp__law_switches [r.enc, g.enc, encIs ws] Q E := ⟨(r, g, ws), rfl, ⟨ok, gk, hl⟩, q⟩
theorem sem__law_true : ∀ ds Q E, sp__law_true ds Q E → t__law_true (endD Q E) (startD 2 ds) := by
  rintro _ Q E ⟨⟨a, b⟩, rfl, _, q⟩
  replace q : Q (.bool (decide (a = b))) := q
  unfold t__law_true
  walk_at "ds"
  refine ⟨true, by rw [isT_bool rfl]; rfl, ?_⟩
  simp only [if_true]
  refine ⟨⟨sh_bool _, sh_bool _⟩, ?_⟩
  have e : deq (.bool a) (.bool b) = decide (a = b) := by cases a <;> cases b <;> rfl
  rw [e]
  exact q
theorem in__law_true {a b : Bool} (q : Q (.bool (decide (a = b)))) : sp__law_true [.bool a, .bool b] Q E := ⟨(a, b), rfl, trivial, q⟩
end
end HC
/-! HM11: groups. -/
namespace HC
open PySem PySem.Spec PyProof.Rows L2
local macro_rules | `(tactic| walk_at "ds") => `(tactic| try simp only [endD, startD, startT, List.map_cons, List.map_nil, List.length_cons, List.length_nil, List.replicate, List.cons_append, List.nil_append, Nat.reduceSub, Nat.reduceAdd, sSeq, sRet, sIf, sNil, sAsg, sUnp, sExpr, sPar2, sPar3, xCons, xNil, xVal, xOwn, bTest, bNot, bAnd, bOr, wVar, wPeek, slot, wC, wOp2, wB, wCons, wNil, wTup, wLst, wIf, wAnd, wOr, wNot, wNeg, wCall, wCallT, wSl, wPart, wNoPart, List.set, ex1, gT_t, gT_st, gT_pr, gC_c, gN_c, gNil_c, sRaise, wChain, sFrz, frz, wIsi, wTabIn, wTabAt, sAug, wDisp1, wNewT, wComp, iSeq, iRange, iEnumD, Bool.false_eq_true, if_false, if_true,
  fAdd_i, fAdd_s, fAdd_l, fAdd_t, fSub_i, fLt_i, fLe_i, fGt_i, fGe_i, fEq_i, fNe_i, fIs_b, fIsN_b, gMin_2, gMax_2, gLen_l, gLen_t, fIx_rm0, fIx_rm1, fIx_rm2, fIx_st0, fIx_st1, fIx_st2, fIx_rg0, fIx_rg1, fIx_rg2, fSl_rg, fEq_gap, fEq_stay, fEq_late, fEq_look, fEq_lean])
theorem rngD_zero (n : Nat) : rngD 0 n = (List.range n).map fun (k : Nat) => D.int (k : Int) := by
  unfold rngD
  refine List.map_congr_left fun k _ => ?_
  rw [Int.zero_add]
theorem atI_of {α : Type} {l : List α} {k : Nat} {a : α} (h : l[k]? = some a) : atI l (k : Int) = some a := atI_nat h
/-- a test's end -/
def onB (Q : Bool → Prop) : D → Prop := fun d => match d with
  | .bool k => Q k
  | _ => False
section
variable {Q : D → Prop} {E : Addr → Prop}
theorem fEq_any {a b : D} (ha : a.sh 64) (hb : b.sh 64) (q : Q (.bool (deq a b))) : fEq a b Q := ⟨⟨ha, hb⟩, q⟩
theorem fNe_any {a b : D} (ha : a.sh 64) (hb : b.sh 64) (q : Q (.bool (!deq a b))) : fNe a b Q := ⟨⟨ha, hb⟩, q⟩
/-- [k for k in range(len(things)) if things[k] == one] -/
theorem grp_comp {ds : List D} {i : Nat} {b : D} {is : Nat} {tt : TB} {te : TP} {r : Env} {Q : List D → Prop} (hb : ds[i]? = some b) (ht : ∀ k a (Q' : Bool → Prop), ds[k]? = some a → Q' (deq a b) → tt (r.set is (.val (.int (k : Nat)))) Q' E0') (he : ∀ (k : Nat) (Q' : D → Prop), Q' (.int k) → te (r.set is (.val (.int (k : Nat)))) Q' E0')
    (q : Q (((List.range ds.length).filter fun j => eqAtD ds j i).map fun (k : Nat) => D.int (k : Int))) : compW (gN is) tt te r ((List.range ds.length).map fun (k : Nat) => D.int (k : Int)) Q := by
  refine comp_filt (fun (k : Nat) => D.int (k : Int)) (fun (k : Nat) => D.int (k : Int)) (fun j => eqAtD ds j i) _ (fun k hk => ⟨_, rfl, fun Q' q' => ?_, fun _ Q' q' => he k Q' q'⟩) q
  have hk' := List.mem_range.mp hk
  refine ht k _ Q' (List.getElem?_eq_getElem hk') ?_
  unfold eqAtD at q'
  rw [List.getElem?_eq_getElem hk', hb] at q'
  exact q'
theorem sh_take {ds : List D} {n k : Nat} (h : ∀ d ∈ ds, d.sh n) : ∀ d ∈ ds.take k, d.sh n := fun d hd => h d (List.mem_of_mem_take hd)
theorem loop_groups (ds : List D) (hl : ds.length ≤ 1000) (hs : ∀ d ∈ ds, d.sh 60) (e : En) : ∀ (suf : List D) (n : Nat) (s2 s3 s4 : Sl), ds.drop n = suf → n ≤ ds.length →
    (∀ s2 s3, e.nx [.val (.list ds), .own (encGrps (grpD ds)), s2, s3, s4]) →
    loopW (gT (gCons' (gN 2) (gCons' (gN 3) gNil'))) (sIf (bTest (wOp2 fNotIn (wPeek 3) (wSl (wPeek 0) wNoPart (wPart (wPeek 2))))) (sApp 1 (wComp [4] (iRange (wCons (wB gLen (wCons (wPeek 0) wNil)) wNil)) (gN 4) (bTest (wOp2 fEq (wOp2 fIx (wPeek 0) (wPeek 4)) (wPeek 3))) (wVar 4))) sNil) e (enumD n suf)
      [.val (.list ds), .own (encGrps (((List.range n).filter (firstD ds)).map fun i => (List.range ds.length).filter fun j => eqAtD ds j i)), s2, s3, s4]
  | [], n, s2, s3, s4, hd, hn, q => by
    have en : n = ds.length := by
      have := congrArg List.length hd
      rw [List.length_drop] at this
      simp at this
      omega
    subst en
    exact q s2 s3
  | one :: suf, n, s2, s3, s4, hd, hn, q => by
    have hlt : n < ds.length := by
      have := congrArg List.length hd
      rw [List.length_drop] at this
      simp at this
      omega
    have hone : ds[n]? = some one := by
      have := congrArg (·[0]?) hd
      simpa using this
    have hdrop : ds.drop (n + 1) = suf := by
      have := congrArg List.tail hd
      rw [List.tail_drop] at this
      exact this
    have hm := List.mem_of_getElem? hone
    have step := loop_groups ds hl hs e suf (n + 1) (.val (.int n)) (.val one) s4 hdrop (by omega) q
    rw [List.range_succ, List.filter_append, List.map_append] at step
    refine ⟨[.val (.list ds), .own (encGrps _), .val (.int n), .val one, s4], rfl, ?_⟩
    walk_at "ds"
    rw [fSl_l, cutL_take, fNotIn_l]
    refine ⟨⟨(hs one hm).mono (by omega), sh_l64 (sh_take (k := n) hs)⟩, ?_⟩
    cases hf : dIn one (ds.take n) with
    | true =>
      have ff : firstD ds n = false := by unfold firstD; rw [hone]; simp [hf]
      rw [show [n].filter (firstD ds) = [] by simp [ff]] at step
      simp only [List.map_nil, List.append_nil] at step
      exact step
    | false =>
      have ff : firstD ds n = true := by unfold firstD; rw [hone]; simp [hf]
      rw [show [n].filter (firstD ds) = [n] by simp [ff]] at step
      simp only [Bool.not_false, if_true]
      unfold sApp
      walk_at "ds"
      refine ⟨⟨by omega, by omega⟩, ?_⟩
      rw [Int.toNat_natCast, rngD_zero]
      refine ⟨le1000 (by rw [List.length_map, List.length_range]; omega), ?_⟩
      refine grp_comp (i := n) hone (fun k a Q' hk q' => ?_) (fun k Q' q' => q') ?_
      · show fIx (.list ds) (.int k) fun z => fEq z one (onB Q')
        rw [fIx_l]
        exact ⟨a, atI_of hk, fEq_any ((hs a (List.mem_of_getElem? hk)).mono (by omega)) ((hs one hm).mono (by omega)) q'⟩
      · refine ⟨?_, ?_⟩
        · rw [List.length_map, List.length_map]
          have := List.length_filter_le (firstD ds) (List.range n)
          rw [List.length_range] at this
          exact small1000 (by omega)
        · rw [encGrps, List.map_append] at step
          exact step
theorem sem_groups_by : ∀ ds Q E, sp_groups_by ds Q E → t_groups_by (endD Q E) (startD 5 ds) := by
  rintro _ Q E ⟨ds, rfl, ⟨hl, hs⟩, q⟩
  replace q : Q (encGrps (grpD ds)) := q
  unfold t_groups_by
  walk_at "ds"
  unfold sFor
  walk_at "ds"
  exact loop_groups ds hl hs _ ds 0 .un .un .un rfl (Nat.zero_le _) fun s2 s3 => q
theorem sem__law_groups : ∀ ds Q E, sp__law_groups ds Q E → t__law_groups (endD Q E) (startD 4 ds) := by
  rintro _ Q E ⟨ds, rfl, ⟨hl, hs⟩, q⟩
  replace q : Q (encGrps (grpD ds)) := q
  replace hl : ds.length ≤ 1000 := hl
  unfold t__law_groups
  walk_at "ds"
  refine ⟨⟨by omega, by omega⟩, ?_⟩
  rw [Int.toNat_natCast, rngD_zero]
  refine ⟨le1000 (by rw [List.length_map, List.length_range]; omega), ?_⟩
  refine comp_filt (fun (k : Nat) => D.int (k : Int)) (fun (k : Nat) => D.int (k : Int)) (firstD ds) _ (fun k hk => ⟨_, rfl, fun Q' q' => ?_, fun _ Q' q' => q'⟩) ?_
  · have hk' := List.mem_range.mp hk
    have e1 := List.getElem?_eq_getElem hk'
    unfold firstD at q'
    rw [e1] at q'
    show fIx (.list ds) (.int k) fun z => fSl (.list ds) none (some k) fun l => fNotIn z l (onB Q')
    rw [fIx_l]
    refine ⟨_, atI_of e1, ?_⟩
    rw [fSl_l, cutL_take, fNotIn_l]
    exact ⟨⟨(hs _ (List.mem_of_getElem? e1)).mono (by omega), sh_l64 (sh_take (k := k) hs)⟩, q'⟩
  · walk_at "ds"
    refine ⟨le1000 ?_, ?_⟩
    · rw [List.length_map]
      have := List.length_filter_le (firstD ds) (List.range ds.length)
      rw [List.length_range] at this
      omega
    · refine comp_enc (fun (k : Nat) => D.int (k : Int)) (fun i => encNs ((List.range ds.length).filter fun j => eqAtD ds j i)) _ (fun i hi => ⟨_, rfl, fun Q' q' => ?_⟩) ?_
      · have hi' := List.mem_range.mp (List.mem_filter.mp hi).1
        have e1 := List.getElem?_eq_getElem hi'
        unfold wComp iRange
        walk_at "ds"
        refine ⟨⟨by omega, by omega⟩, ?_⟩
        rw [Int.toNat_natCast, rngD_zero]
        refine ⟨le1000 (by rw [List.length_map, List.length_range]; omega), ?_⟩
        refine grp_comp (i := i) e1 (fun k a Q' hk q' => ?_) (fun k Q' q' => q') q'
        show fIx (.list ds) (.int k) fun z => fIx (.list ds) (.int i) fun y => fEq z y (onB Q')
        rw [fIx_l]
        refine ⟨a, atI_of hk, ?_⟩
        rw [fIx_l]
        exact ⟨_, atI_of e1, fEq_any ((hs a (List.mem_of_getElem? hk)).mono (by omega)) ((hs _ (List.mem_of_getElem? e1)).mono (by omega)) q'⟩
      · unfold encGrps grpD at q
        rw [List.map_map] at q
        exact q
theorem in_groups_by {ds : List D} (hl : ds.length ≤ 1000) (hs : ∀ d ∈ ds, d.sh 60) (q : Q (encGrps (grpD ds))) : sp_groups_by [.list ds] Q E := ⟨ds, rfl, ⟨hl, hs⟩, q⟩
theorem in__law_groups {ds : List D} (hl : ds.length ≤ 1000) (hs : ∀ d ∈ ds, d.sh 60) (q : Q (encGrps (grpD ds))) : sp__law_groups [.list ds] Q E := ⟨ds, rfl, ⟨hl, hs⟩, q⟩
end
end HC
/-! HM12: records, bars. -/
namespace HC
open PySem PySem.Spec PyProof.Rows L2
local macro_rules | `(tactic| walk_at "ds") => `(tactic| try simp only [endD, startD, startT, List.map_cons, List.map_nil, List.length_cons, List.length_nil, List.replicate, List.cons_append, List.nil_append, Nat.reduceSub, Nat.reduceAdd, sSeq, sRet, sIf, sNil, sAsg, sUnp, sExpr, sPar2, sPar3, xCons, xNil, xVal, xOwn, bTest, bNot, bAnd, bOr, wVar, wPeek, slot, wC, wOp2, wB, wCons, wNil, wTup, wLst, wIf, wAnd, wOr, wNot, wNeg, wCall, wCallT, wSl, wPart, wNoPart, List.set, ex1, gT_t, gT_st, gT_pr, gC_c, gN_c, gNil_c, sRaise, wChain, sFrz, frz, wIsi, wTabIn, wTabAt, sAug, wDisp1, wNewT, wComp, iSeq, iRange, iEnumD, Bool.false_eq_true, if_false, if_true,
  fAdd_i, fAdd_s, fAdd_l, fAdd_t, fSub_i, fLt_i, fLe_i, fGt_i, fGe_i, fEq_i, fNe_i, fIs_b, fIsN_b, gMin_2, gMax_2, gLen_l, gLen_t, fIx_rm0, fIx_rm1, fIx_rm2, fIx_st0, fIx_st1, fIx_st2, fIx_rg0, fIx_rg1, fIx_rg2, fSl_rg, fEq_gap, fEq_stay, fEq_late, fEq_look, fEq_lean])
section
variable {Q : D → Prop} {E : Addr → Prop}
theorem sem_is_mark : ∀ ds Q E, sp_is_mark ds Q E → t_is_mark (endD Q E) (startD 3 ds) := by
  rintro _ Q E ⟨⟨d, top, sg⟩, rfl, h, q⟩
  replace h : d.plain = true := h
  replace q : Q (.bool (isMarkF d top sg)) := q
  unfold isMarkF at q
  unfold t_is_mark
  walk_at "ds"
  by_cases c0 : sg = 0
  · rw [if_pos c0] at q
    refine ite_t (decide_eq_true c0) ?_
    exact in_is_int h q
  · rw [if_neg c0] at q
    refine ite_f (decide_eq_false c0) ?_
    simp only [isT_tup h, ex1]
    cases d <;> first | exact absurd h Bool.false_ne_true | skip
    all_goals simp only [isTupD, Bool.not_true, Bool.not_false, Bool.false_eq_true, if_true, if_false]
    all_goals first | exact q | skip
    rename_i ds
    have hp : D.plains ds = true := h
    simp only [gLen_t, fNe_i, fIx_t]
    match ds, hp, q with
    | [], _, q => exact q
    | [a], _, q => exact q
    | [a, b], hp, q =>
      have pa := plain_of hp (d := a) (by simp)
      have pb := plain_of hp (d := b) (by simp)
      replace q : Q (.bool (isIntF a 0 1 && isIntF b 0 top)) := q
      refine ite_f (by simp) ⟨a, rfl, in_is_int pa ?_⟩
      cases ha : isIntF a 0 1 with
      | false => rw [ha] at q; exact q
      | true => rw [ha] at q; exact ⟨b, rfl, in_is_int pb q⟩
    | a :: b :: c :: r, _, q =>
      refine ite_t ?_ q
      simp only [List.length_cons]
      simp
      omega
theorem in_is_mark {d : D} {t s : Int} (h : d.plain = true) (q : Q (.bool (isMarkF d t s))) : sp_is_mark [d, .int t, .int s] Q E := ⟨(d, t, s), rfl, h, q⟩
theorem sem_is_mark_row : ∀ ds Q E, sp_is_mark_row ds Q E → t_is_mark_row (endD Q E) (startD 4 ds) := by
  rintro _ Q E ⟨⟨d, top, sg⟩, rfl, h, q⟩
  replace h : d.plain = true := h
  replace q : Q (.bool (isMrowF d top sg)) := q
  unfold t_is_mark_row
  walk_at "ds"
  simp only [isT_lst h, ex1]
  cases d <;> first | exact absurd h Bool.false_ne_true | skip
  all_goals simp only [isLstD, Bool.not_true, Bool.not_false, Bool.false_eq_true, if_true, if_false]
  all_goals first | exact q | skip
  rename_i ds
  replace q : Q (.bool (decide (ds.length ≤ 60) && ds.all fun d => isMarkF d top sg)) := q
  simp only [gLen_l, fGt_i]
  by_cases c1 : ds.length ≤ 60
  · rw [decide_eq_true c1, Bool.true_and] at q
    refine ite_f (decide_eq_false (by omega)) ⟨le1000 (by omega), ?_⟩
    refine comp_map (fun d => .bool (isMarkF d top sg)) ds (fun d hd => ⟨_, rfl, fun Q' q' => in_is_mark (E := E0') (plain_of h hd) q'⟩) ?_
    rw [all_bools]
    exact q
  · rw [decide_eq_false c1, Bool.false_and] at q
    exact ite_t (decide_eq_true (by omega)) q
theorem in_is_mark_row {d : D} {t s : Int} (h : d.plain = true) (q : Q (.bool (isMrowF d t s))) : sp_is_mark_row [d, .int t, .int s] Q E := ⟨(d, t, s), rfl, h, q⟩
theorem isRowF_lst {d : D} (h : isRowF d = true) : ∃ ds, d = .list ds := by
  cases d <;> first | cases h | exact ⟨_, rfl⟩
theorem isMrowF_lst {d : D} {t s : Int} (h : isMrowF d t s = true) : ∃ ds, d = .list ds := by
  cases d <;> first | cases h | exact ⟨_, rfl⟩
theorem sem_is_record : ∀ ds Q E, sp_is_record ds Q E → t_is_record (endD Q E) (startD 1 ds) := by
  rintro _ Q E ⟨d, rfl, h, q⟩
  replace h : d.plain = true := h
  replace q : Q (.bool (isRecF d)) := q
  unfold t_is_record
  walk_at "ds"
  simp only [isT_tup h, ex1]
  cases d <;> first | exact absurd h Bool.false_ne_true | skip
  all_goals simp only [isTupD, Bool.not_true, Bool.not_false, Bool.false_eq_true, if_true, if_false]
  all_goals first | exact q | skip
  rename_i ds
  have hp : D.plains ds = true := h
  simp only [gLen_t, fNe_i, fIx_t]
  match ds, hp, q with
  | [], _, q => exact q
  | [a], _, q => exact q
  | [a, b], hp, q =>
    have pa := plain_of hp (d := a) (by simp)
    have pb := plain_of hp (d := b) (by simp)
    replace q : Q (.bool (isRowF a && (isMrowF b 0 0 && decide (lenF a = lenF b)))) := q
    refine ite_f (by simp) ⟨a, rfl, in_is_row pa ?_⟩
    cases ha : isRowF a with
    | false => rw [ha] at q; exact q
    | true =>
      rw [ha, Bool.true_and] at q
      refine ⟨b, rfl, in_is_mark_row pb ?_⟩
      cases hb : isMrowF b 0 0 with
      | false => rw [hb] at q; exact q
      | true =>
        rw [hb, Bool.true_and] at q
        obtain ⟨as, rfl⟩ := isRowF_lst ha
        obtain ⟨bs, rfl⟩ := isMrowF_lst hb
        refine ⟨.list as, rfl, ?_⟩
        rw [gLen_l]
        refine ⟨.list bs, rfl, ?_⟩
        rw [gLen_l, fEq_i]
        have e : decide ((as.length : Int) = (bs.length : Int)) = decide (lenF (.list as) = lenF (.list bs)) := by
          rw [decide_eq_decide]
          show (as.length : Int) = (bs.length : Int) ↔ as.length = bs.length
          omega
        rw [e]
        exact q
  | a :: b :: c :: r, _, q =>
    refine ite_t ?_ q
    simp only [List.length_cons]
    simp
    omega
theorem in_is_record {d : D} (h : d.plain = true) (q : Q (.bool (isRecF d))) : sp_is_record [d] Q E := ⟨d, rfl, h, q⟩
/-! ### bar_of -/
theorem loop_bar (r : Rm) (g : Rg) (c : D) (e : En) : ∀ (as bs : List Int) (n : Nat) (s3 s4 s5 : Sl), (∀ s3 s4 s5, barF n as bs = none → e.nx [.val r.enc, .val g.enc, .val c, s3, s4, s5]) → (∀ k, barF n as bs = some k → e.rt (.int k)) →
    loopW (gT (gCons' (gN 3) (gCons' (gT (gCons' (gN 4) (gCons' (gN 5) gNil'))) gNil'))) (sIf (bTest (wOp2 fNe (wPeek 4) (wPeek 5))) (sRet (wVar 3)) sNil) e (ezD n (as.map D.int) (bs.map D.int)) [.val r.enc, .val g.enc, .val c, s3, s4, s5]
  | [], bs, n, s3, s4, s5, q1, q2 => q1 s3 s4 s5 rfl
  | _ :: _, [], n, s3, s4, s5, q1, q2 => q1 s3 s4 s5 rfl
  | a :: as, b :: bs, n, s3, s4, s5, q1, q2 => by
    refine ⟨[.val r.enc, .val g.enc, .val c, .val (.int n), .val (.int a), .val (.int b)], rfl, ?_⟩
    walk_at "ds"
    rw [barF] at q1 q2
    by_cases h : a = b
    · rw [if_pos h] at q1 q2
      refine ite_f (by simp [h]) ?_
      exact loop_bar r g c e as bs (n + 1) _ _ _ q1 q2
    · rw [if_neg h] at q2
      refine ite_t (by simp [h]) ?_
      exact q2 n rfl
theorem sem_bar_of : ∀ ds Q E, sp_bar_of ds Q E → t_bar_of (endD Q E) (startD 6 ds) := by
  rintro _ Q E ⟨⟨r, g, c⟩, rfl, hl, q⟩
  replace hl : c.1.length ≤ 1000 := hl
  replace q : Q (optN (barOf r g c)) := q
  unfold t_bar_of
  walk_at "ds"
  unfold sFor iEnumZipD
  walk_at "ds"
  refine ⟨encIs c.1, rfl, in_switches_of hl ?_⟩
  refine ⟨encIs c.2, rfl, ?_⟩
  refine loop_bar r g (encRec c) _ (sws r g c.1) c.2 0 .un .un .un (fun s3 s4 s5 hb => ?_) fun k hb => ?_
  · unfold barOf at q
    rw [hb] at q
    exact q
  · unfold barOf at q
    rw [hb] at q
    exact q
theorem in_bar_of {r : Rm} {g : Rg} {c : Rec} (hl : c.1.length ≤ 1000) (q : Q (optN (barOf r g c))) : sp_bar_of [r.enc, g.enc, encRec c] Q E := ⟨(r, g, c), rfl, hl, q⟩
/-! ### valid records -/
structure Rec.Ok (c : Rec) : Prop where
  l60 : c.1.length ≤ 60
  ws : ∀ w ∈ c.1, 1 ≤ w ∧ w ≤ 3
  eq : c.1.length = c.2.length
  ts : ∀ t ∈ c.2, 0 ≤ t ∧ t ≤ 1
theorem isMrowF_is {d : D} (h : isMrowF d 0 0 = true) : ∃ ts : List Int, d = encIs ts ∧ ts.length ≤ 60 ∧ isOf d = ts ∧ ∀ t ∈ ts, 0 ≤ t ∧ t ≤ 1 := by
  obtain ⟨ds, rfl⟩ := isMrowF_lst h
  have h' := Bool.and_eq_true_iff.mp (show (decide (ds.length ≤ 60) && ds.all fun d => isMarkF d 0 0) = true from h)
  have hl := of_decide_eq_true h'.1
  have : ∃ ts : List Int, ds = ts.map D.int ∧ ∀ t ∈ ts, 0 ≤ t ∧ t ≤ 1 := by
    have ha := h'.2
    clear h h' hl
    induction ds with
    | nil => exact ⟨[], rfl, by simp⟩
    | cons d ds ih =>
      simp only [List.all_cons, Bool.and_eq_true] at ha
      obtain ⟨i, rfl, h1, h2⟩ := isIntF_int (show isIntF d 0 1 = true from ha.1)
      obtain ⟨ts, rfl, ht⟩ := ih ha.2
      exact ⟨i :: ts, rfl, by simp; exact ⟨⟨h1, h2⟩, ht⟩⟩
  obtain ⟨ts, rfl, ht⟩ := this
  refine ⟨ts, rfl, by simpa using hl, ?_, ht⟩
  show (dInts (ts.map D.int)).getD [] = ts
  rw [ints_map]
  rfl
theorem isRecF_is {d : D} (h : isRecF d = true) : ∃ c : Rec, c.Ok ∧ d = encRec c ∧ recOf d = c := by
  unfold isRecF at h
  split at h
  · rename_i a b
    simp only [Bool.and_eq_true, decide_eq_true_eq] at h
    obtain ⟨h1, h2, h3⟩ := h
    obtain ⟨ws, rfl, l1, e1, hw⟩ := isRowF_is h1
    obtain ⟨ts, rfl, l2, e2, ht⟩ := isMrowF_is h2
    refine ⟨(ws, ts), ⟨l1, hw, ?_, ht⟩, rfl, by show (isOf (encIs ws), isOf (encIs ts)) = _; rw [e1, e2]⟩
    have : (ws.map D.int).length = (ts.map D.int).length := h3
    simpa using this
  · cases h
theorem rec_enc {c : Rec} (h : c.Ok) : isRecF (encRec c) = true ∧ recOf (encRec c) = c := by
  obtain ⟨h1, h2, h3, h4⟩ := h
  obtain ⟨ws, ts⟩ := c
  have e1 := row_enc h1 h2
  have e2 : isOf (encIs ts) = ts := by show (dInts (ts.map D.int)).getD [] = ts; rw [ints_map]; rfl
  refine ⟨?_, by show (isOf (encIs ws), isOf (encIs ts)) = (ws, ts); rw [e1.2, e2]⟩
  show (isRowF (encIs ws) && (isMrowF (encIs ts) 0 0 && decide (lenF (encIs ws) = lenF (encIs ts)))) = true
  have e3 : isMrowF (encIs ts) 0 0 = true := by
    show (decide ((ts.map D.int).length ≤ 60) && (ts.map D.int).all fun d => isMarkF d 0 0) = true
    rw [List.length_map, decide_eq_true (by simp only at h1 h3; omega), Bool.true_and, List.all_map, List.all_eq_true]
    intro t m
    have := h4 t m
    show isIntF (.int t) 0 1 = true
    simp [isIntF, this]
  rw [e1.1, e3, decide_eq_true (show lenF (encIs ws) = lenF (encIs ts) by show (ws.map D.int).length = (ts.map D.int).length; simpa using h3)]
  rfl
theorem sh_rec (c : Rec) : (encRec c).sh 2 := sh_tuple (n := 1) fun d hd => by
  simp only [List.mem_cons, List.mem_nil_iff, or_false] at hd
  rcases hd with rfl | rfl <;> exact sh_is _
end
end HC
/-! HM13: bars, remains, groups. -/
namespace HC
open PySem PySem.Spec PyProof.Rows L2
local macro_rules | `(tactic| walk_at "ds") => `(tactic| try simp only [endD, startD, startT, List.map_cons, List.map_nil, List.length_cons, List.length_nil, List.replicate, List.cons_append, List.nil_append, Nat.reduceSub, Nat.reduceAdd, sSeq, sRet, sIf, sNil, sAsg, sUnp, sExpr, sPar2, sPar3, xCons, xNil, xVal, xOwn, bTest, bNot, bAnd, bOr, wVar, wPeek, slot, wC, wOp2, wB, wCons, wNil, wTup, wLst, wIf, wAnd, wOr, wNot, wNeg, wCall, wCallT, wSl, wPart, wNoPart, List.set, ex1, gT_t, gT_st, gT_pr, gC_c, gN_c, gNil_c, sRaise, wChain, sFrz, frz, wIsi, wTabIn, wTabAt, sAug, wDisp1, wNewT, wComp, iSeq, iRange, iEnumD, Bool.false_eq_true, if_false, if_true,
  fAdd_i, fAdd_s, fAdd_l, fAdd_t, fSub_i, fLt_i, fLe_i, fGt_i, fGe_i, fEq_i, fNe_i, fIs_b, fIsN_b, gMin_2, gMax_2, gLen_l, gLen_t, fIx_rm0, fIx_rm1, fIx_rm2, fIx_st0, fIx_st1, fIx_st2, fIx_rg0, fIx_rg1, fIx_rg2, fSl_rg, fEq_gap, fEq_stay, fEq_late, fEq_look, fEq_lean])
section
variable {Q : D → Prop} {E : Addr → Prop}
theorem chkOne_or {x : Xc} {a b c : D} {k : Rm → Rg → Rec → Ex} (q : outE Q E (chkOne x (a, b, c) k)) :
    (isRoomF a = false ∧ E x.badRoom) ∨ (isRoomF a = true ∧ isForF b (topOf a) = false ∧ E x.badRegulator) ∨ (isRoomF a = true ∧ isForF b (topOf a) = true ∧ isRecF c = false ∧ E x.badMarks) ∨
    (∃ r g d, a = Rm.enc r ∧ b = Rg.enc g ∧ c = encRec d ∧ r.Ok ∧ g.Ok r.top ∧ Rec.Ok d ∧ outE Q E (k r g d)) := by
  unfold chkOne chkRg at q
  cases hr : isRoomF a with
  | false =>
    rw [if_neg (by simp [hr])] at q
    exact .inl ⟨rfl, q⟩
  | true =>
    rw [if_pos hr] at q
    cases hf : isForF b (topOf a) with
    | false =>
      rw [if_neg (by simp [hf])] at q
      exact .inr (.inl ⟨rfl, rfl, q⟩)
    | true =>
      rw [if_pos hf] at q
      cases hw : isRecF c with
      | false =>
        rw [if_neg (by simp [hw])] at q
        exact .inr (.inr (.inl ⟨rfl, rfl, rfl, q⟩))
      | true =>
        rw [if_pos hw] at q
        obtain ⟨r, ok, rfl⟩ := isRoomF_top hr
        obtain ⟨g, gk, rfl, e⟩ := isForF_rg hf
        obtain ⟨d, dk, rfl, e2⟩ := isRecF_is hw
        rw [e, e2] at q
        exact .inr (.inr (.inr ⟨r, g, d, rfl, rfl, rfl, ok, gk, dk, q⟩))
theorem sem_first_bar (x : Xc) : ∀ ds Q E, sp_first_bar x ds Q E → t_first_bar x (endD Q E) (startD 3 ds) := by
  rintro _ Q E ⟨⟨a, b, c⟩, rfl, ⟨h1, h2, h3⟩, q⟩
  unfold t_first_bar
  walk_at "ds"
  rcases chkOne_or q with ⟨g1, q⟩ | ⟨g1, g2, q⟩ | ⟨g1, g2, g3, q⟩ | ⟨r, g, d, rfl, rfl, rfl, ok, gk, dk, q⟩
  · exact chk_bad1 h1 h2 g1 q
  · exact chk_bad2 h1 h2 g1 g2 q
  · exact chk_ok h1 h2 g1 g2 (in_is_record h3 (ite_t (by rw [g3]; rfl) q))
  · refine chk_ok h1 h2 (room_enc ok) (rg_enc gk).1 (in_is_record h3 (ite_f (by rw [(rec_enc dk).1]; rfl) ?_))
    exact in_bar_of (by have := dk.l60; omega) q
theorem in_first_bar {x : Xc} {a b c : D} {k : Rm → Rg → Rec → Ex} (h : pl3 (a, b, c)) {Q1 : D → Prop} (q : outE Q E (chkOne x (a, b, c) k))
    (hq : ∀ r g d, r.Ok → g.Ok r.top → Rec.Ok d → outE Q E (k r g d) → Q1 (optN (barOf r g d))) : sp_first_bar x [a, b, c] Q1 E := by
  refine ⟨(a, b, c), rfl, h, ?_⟩
  show outE Q1 E (chkOne x (a, b, c) fun r g c => .ok (optN (barOf r g c)))
  unfold chkOne chkRg
  rcases chkOne_or q with ⟨g1, q⟩ | ⟨g1, g2, q⟩ | ⟨g1, g2, g3, q⟩ | ⟨r, g, d, rfl, rfl, rfl, ok, gk, dk, q⟩
  · rw [if_neg (by simp [g1])]; exact q
  · rw [if_pos g1, if_neg (by simp [g2])]; exact q
  · rw [if_pos g1, if_pos g2, if_neg (by simp [g3])]; exact q
  · have e1 : isForF g.enc (topOf r.enc) = true := (rg_enc gk).1
    simp only [room_enc ok, e1, (rec_enc dk).1, (rg_enc gk).2, (rec_enc dk).2, if_true]
    exact hq r g d ok gk dk q
theorem sem_made (x : Xc) : ∀ ds Q E, sp_made x ds Q E → t_made x (endD Q E) (startD 3 ds) := by
  rintro _ Q E ⟨⟨a, b, c⟩, rfl, h, q⟩
  unfold t_made
  walk_at "ds"
  refine in_first_bar h q fun r g d ok gk dk q => ?_
  replace q : Q (.bool (barOf r g d).isNone) := q
  cases hb : barOf r g d with
  | none => rw [hb] at q; exact q
  | some n => rw [hb] at q; exact q
/-! ### families and records -/
theorem fam_is {d : D} {t : Int} (h : isFamF d t = true) : ∃ gs : List Rg, d = .list (gs.map Rg.enc) ∧ 1 ≤ gs.length ∧ gs.length ≤ 8 ∧ (∀ g ∈ gs, g.Ok t) ∧ (lstOf d).map rgOf = gs := by
  cases d <;> first | cases h | skip
  rename_i ds
  have h' : famT ds t = true := h
  unfold famT at h'
  simp only [Bool.and_eq_true, decide_eq_true_eq] at h'
  obtain ⟨l1, l8, ha⟩ := h'
  have : ∃ gs : List Rg, ds = gs.map Rg.enc ∧ (∀ g ∈ gs, g.Ok t) ∧ ds.map rgOf = gs := by
    clear l1 l8 h
    induction ds with
    | nil => exact ⟨[], rfl, by simp, rfl⟩
    | cons d ds ih =>
      simp only [List.all_cons, Bool.and_eq_true] at ha
      obtain ⟨g, gk, rfl, e⟩ := isForF_rg ha.1
      obtain ⟨gs, rfl, hg, e2⟩ := ih ha.2
      refine ⟨g :: gs, rfl, fun a ha => ?_, by rw [List.map_cons, e, e2]⟩
      rcases List.mem_cons.mp ha with rfl | ha
      · exact gk
      · exact hg a ha
  obtain ⟨gs, rfl, hg, e⟩ := this
  rw [List.length_map] at l1 l8
  exact ⟨gs, rfl, l1, l8, hg, e⟩
theorem fam_enc {gs : List Rg} {t : Int} (l1 : 1 ≤ gs.length) (l8 : gs.length ≤ 8) (h : ∀ g ∈ gs, g.Ok t) : isFamF (.list (gs.map Rg.enc)) t = true ∧ (lstOf (.list (gs.map Rg.enc))).map rgOf = gs := by
  constructor
  · show famT (gs.map Rg.enc) t = true
    unfold famT
    rw [List.length_map, decide_eq_true l1, decide_eq_true l8, List.all_map, Bool.true_and, Bool.true_and, List.all_eq_true]
    exact fun g hg => (rg_enc (h g hg)).1
  · show (gs.map Rg.enc).map rgOf = gs
    rw [List.map_map]
    conv => rhs; rw [← List.map_id gs]
    exact List.map_congr_left fun g hg => (rg_enc (h g hg)).2
theorem recs_is {d : D} (h : isRecsF d = true) : ∃ cs : List Rec, d = .list (cs.map encRec) ∧ 1 ≤ cs.length ∧ cs.length ≤ 12 ∧ (∀ c ∈ cs, Rec.Ok c) ∧ (lstOf d).map recOf = cs := by
  cases d <;> first | cases h | skip
  rename_i ds
  have h' : recsF ds = true := h
  unfold recsF at h'
  simp only [Bool.and_eq_true, decide_eq_true_eq] at h'
  obtain ⟨l1, l8, ha⟩ := h'
  have : ∃ cs : List Rec, ds = cs.map encRec ∧ (∀ c ∈ cs, Rec.Ok c) ∧ ds.map recOf = cs := by
    clear l1 l8 h
    induction ds with
    | nil => exact ⟨[], rfl, by simp, rfl⟩
    | cons d ds ih =>
      simp only [List.all_cons, Bool.and_eq_true] at ha
      obtain ⟨c, ck, rfl, e⟩ := isRecF_is ha.1
      obtain ⟨cs, rfl, hc, e2⟩ := ih ha.2
      refine ⟨c :: cs, rfl, fun a ha => ?_, by rw [List.map_cons, e, e2]⟩
      rcases List.mem_cons.mp ha with rfl | ha
      · exact ck
      · exact hc a ha
  obtain ⟨cs, rfl, hc, e⟩ := this
  rw [List.length_map] at l1 l8
  exact ⟨cs, rfl, l1, l8, hc, e⟩
theorem recs_enc {cs : List Rec} (l1 : 1 ≤ cs.length) (l8 : cs.length ≤ 12) (h : ∀ c ∈ cs, Rec.Ok c) : isRecsF (.list (cs.map encRec)) = true ∧ (lstOf (.list (cs.map encRec))).map recOf = cs := by
  constructor
  · show recsF (cs.map encRec) = true
    unfold recsF
    rw [List.length_map, decide_eq_true l1, decide_eq_true l8, List.all_map, Bool.true_and, Bool.true_and, List.all_eq_true]
    exact fun c hc => (rec_enc (h c hc)).1
  · show (cs.map encRec).map recOf = cs
    rw [List.map_map]
    conv => rhs; rw [← List.map_id cs]
    exact List.map_congr_left fun c hc => (rec_enc (h c hc)).2
theorem in_check_family {x : Xc} {a b : D} (h1 : a.plain = true) (h2 : b.plain = true) (q : outE Q E (chkFam x a b (.ok .none))) : sp_check_family x [a, b] Q E := ⟨(a, b), rfl, ⟨h1, h2⟩, q⟩
theorem fam_bad1 {x : Xc} {a b : D} (h1 : a.plain = true) (h2 : b.plain = true) (h : isRoomF a = false) (q : E x.badRoom) : sp_check_family x [a, b] Q E := in_check_family h1 h2 (by
  unfold chkFam
  rw [if_neg (by simp [h])]
  exact q)
theorem fam_bad2 {x : Xc} {a b : D} (h1 : a.plain = true) (h2 : b.plain = true) (h : isRoomF a = true) (h' : isFamF b (topOf a) = false) (q : E x.badRegulator) : sp_check_family x [a, b] Q E := in_check_family h1 h2 (by
  unfold chkFam
  rw [if_pos h, if_neg (by simp [h'])]
  exact q)
theorem fam_ok {x : Xc} {a b : D} (h1 : a.plain = true) (h2 : b.plain = true) (h : isRoomF a = true) (h' : isFamF b (topOf a) = true) (q : Q .none) : sp_check_family x [a, b] Q E := in_check_family h1 h2 (by
  unfold chkFam
  rw [if_pos h, if_pos h']
  exact q)
theorem chkRecs_or {x : Xc} {a b c : D} {k : Rm → List Rg → List Rec → Ex} (q : outE Q E (chkRecs x (a, b, c) k)) :
    (isRoomF a = false ∧ E x.badRoom) ∨ (isRoomF a = true ∧ isFamF b (topOf a) = false ∧ E x.badRegulator) ∨ (isRoomF a = true ∧ isFamF b (topOf a) = true ∧ isRecsF c = false ∧ E x.badMarks) ∨
    (∃ (r : Rm) (gs : List Rg) (cs : List Rec), a = r.enc ∧ b = .list (gs.map Rg.enc) ∧ c = .list (cs.map encRec) ∧ r.Ok ∧ (1 ≤ gs.length ∧ gs.length ≤ 8 ∧ ∀ g ∈ gs, g.Ok r.top) ∧ (1 ≤ cs.length ∧ cs.length ≤ 12 ∧ ∀ c ∈ cs, Rec.Ok c) ∧ outE Q E (k r gs cs)) := by
  unfold chkRecs chkFam at q
  cases hr : isRoomF a with
  | false =>
    rw [if_neg (by simp [hr])] at q
    exact .inl ⟨rfl, q⟩
  | true =>
    rw [if_pos hr] at q
    cases hf : isFamF b (topOf a) with
    | false =>
      rw [if_neg (by simp [hf])] at q
      exact .inr (.inl ⟨rfl, rfl, q⟩)
    | true =>
      rw [if_pos hf] at q
      cases hw : isRecsF c with
      | false =>
        rw [if_neg (by simp [hw])] at q
        exact .inr (.inr (.inl ⟨rfl, rfl, rfl, q⟩))
      | true =>
        rw [if_pos hw] at q
        obtain ⟨r, ok, rfl⟩ := isRoomF_top hr
        obtain ⟨gs, rfl, g1, g8, gk, e⟩ := fam_is hf
        obtain ⟨cs, rfl, c1, c12, ck, e2⟩ := recs_is hw
        rw [e, e2] at q
        exact .inr (.inr (.inr ⟨r, gs, cs, rfl, rfl, rfl, ok, ⟨g1, g8, gk⟩, ⟨c1, c12, ck⟩, q⟩))
end
end HC
/-! HM14: bars, remains, groups. -/
namespace HC
open PySem PySem.Spec PyProof.Rows L2
local macro_rules | `(tactic| walk_at "ds") => `(tactic| try simp only [endD, startD, startT, List.map_cons, List.map_nil, List.length_cons, List.length_nil, List.replicate, List.cons_append, List.nil_append, Nat.reduceSub, Nat.reduceAdd, sSeq, sRet, sIf, sNil, sAsg, sUnp, sExpr, sPar2, sPar3, xCons, xNil, xVal, xOwn, bTest, bNot, bAnd, bOr, wVar, wPeek, slot, wC, wOp2, wB, wCons, wNil, wTup, wLst, wIf, wAnd, wOr, wNot, wNeg, wCall, wCallT, wSl, wPart, wNoPart, List.set, ex1, gT_t, gT_st, gT_pr, gC_c, gN_c, gNil_c, sRaise, wChain, sFrz, frz, wIsi, wTabIn, wTabAt, sAug, wDisp1, wNewT, wComp, iSeq, iRange, iEnumD, Bool.false_eq_true, if_false, if_true,
  fAdd_i, fAdd_s, fAdd_l, fAdd_t, fSub_i, fLt_i, fLe_i, fGt_i, fGe_i, fEq_i, fNe_i, fIs_b, fIsN_b, gMin_2, gMax_2, gLen_l, gLen_t, fIx_rm0, fIx_rm1, fIx_rm2, fIx_st0, fIx_st1, fIx_st2, fIx_rg0, fIx_rg1, fIx_rg2, fSl_rg, fEq_gap, fEq_stay, fEq_late, fEq_look, fEq_lean])
section
variable {Q : D → Prop} {E : Addr → Prop}
def barredL : Nat → List (Option Nat) → List (Nat × Nat)
  | _, [] => []
  | n, some k :: os => (n, k) :: barredL (n + 1) os
  | n, none :: os => barredL (n + 1) os
def encNP (p : Nat × Nat) : D := .tuple [.int p.1, .int p.2]
theorem comp_barred {tt : TB} {te : TP} {r : Env} (h1 : ∀ (n : Nat) (o : Option Nat) (Q' : Bool → Prop), Q' o.isSome → tt ((r.set 9 (.val (.int n))).set 10 (.val (optN o))) Q' E0') (h2 : ∀ (n k : Nat) (Q' : D → Prop), Q' (encNP (n, k)) → te ((r.set 9 (.val (.int n))).set 10 (.val (.int k))) Q' E0') :
    ∀ (os : List (Option Nat)) (n : Nat) (Q : List D → Prop), Q ((barredL n os).map encNP) → compW (gT (gCons' (gN 9) (gCons' (gN 10) gNil'))) tt te r (enumD n (os.map optN)) Q
  | [], n, Q, q => q
  | none :: os, n, Q, q => ⟨_, rfl, h1 n none _ (comp_barred h1 h2 os (n + 1) Q q)⟩
  | some k :: os, n, Q, q => ⟨_, rfl, h1 n (some k) _ (h2 n k _ (comp_barred h1 h2 os (n + 1) (fun ys => Q (encNP (n, k) :: ys)) q))⟩
theorem fst_barred (r : Rm) (g : Rg) : ∀ (cs : List Rec) (n : Nat), (barredL n (cs.map (barOf r g))).head? = fstBar r g n cs
  | [], _ => rfl
  | c :: cs, n => by
    rw [List.map_cons, fstBar]
    cases h : barOf r g c with
    | none => exact fst_barred r g cs (n + 1)
    | some k => rfl
theorem sh_np (p : Nat × Nat) : (encNP p).sh 1 := sh_tuple (n := 0) fun d hd => by
  simp only [List.mem_cons, List.mem_nil_iff, or_false] at hd
  rcases hd with rfl | rfl <;> exact sh_int' _ _
theorem ne_nil {α : Type} {f : α → D} {l : List α} {n : Nat} (hs : ∀ a, (f a).sh n) (hn : n ≤ 63) (q : Q (.bool (!l.isEmpty))) : fNe (.list (l.map f)) (.list []) Q := by
  refine fNe_any (sh_l64 (sh_map hs l) hn) (sh_l64 (n := 0) (by simp)) ?_
  cases l with
  | nil => exact q
  | cons a l => exact q
/-- barred[0] if barred != [] else None -/
theorem head_or {l : List (Nat × Nat)} (q : Q (optP l.head?)) : (fNe (.list (l.map encNP)) (.list []) fun b => match b with
    | .bool k => if k = true then fIx (.list (l.map encNP)) (.int 0) Q else Q .none
    | _ => False) := by
  refine ne_nil sh_np (by decide) ?_
  cases l with
  | nil => exact q
  | cons a l =>
    show fIx (.list ((a :: l).map encNP)) (.int 0) Q
    rw [fIx_l]
    exact ⟨encNP a, atI_nat (j := 0) rfl, q⟩
theorem loop_bars (r : Rm) (cs : List Rec) (fam : D) (hl : cs.length ≤ 1000) (hc : ∀ c ∈ cs, c.1.length ≤ 1000) (e : En) (s7 s8 s9 s10 : Sl) : ∀ (gs : List Rg) (acc : List (Option (Nat × Nat))) (s4 s5 s6 : Sl), acc.length + gs.length ≤ 1000 →
    (∀ s4 s5 s6, e.nx [.val r.enc, .val fam, .val (.list (cs.map encRec)), .own (.list ((acc ++ barsL r gs cs).map optP)), s4, s5, s6, s7, s8, s9, s10]) →
    loopW (gN 4) (sSeq (sAsg 5 (xVal (wComp [8] (iSeq (wVar 2)) (gN 8) bYes (wCall sp_bar_of (wCons (wVar 0) (wCons (wVar 4) (wCons (wVar 8) wNil)))))))
    (sSeq (sAsg 6 (xVal (wComp [9, 10] (iEnumD (wVar 5)) (gT (gCons' (gN 9) (gCons' (gN 10) gNil'))) (bTest (wOp2 fIsN (wPeek 10) (wC .none))) (wTup (wCons (wVar 9) (wCons (wVar 10) wNil))))))
    (sApp 3 (wIf (bTest (wOp2 fNe (wPeek 6) (wLst wNil))) (wOp2 fIx (wPeek 6) (wC (.int 0))) (wC .none))))) e (gs.map Rg.enc)
      [.val r.enc, .val fam, .val (.list (cs.map encRec)), .own (.list (acc.map optP)), s4, s5, s6, s7, s8, s9, s10]
  | [], acc, s4, s5, s6, _, q => by
    have := q s4 s5 s6
    simp only [barsL, List.map_nil, List.append_nil] at this
    exact this
  | g :: gs, acc, s4, s5, s6, hn, q => by
    refine ⟨[.val r.enc, .val fam, .val (.list (cs.map encRec)), .own (.list (acc.map optP)), .val g.enc, s5, s6, s7, s8, s9, s10], rfl, ?_⟩
    walk_at "ds"
    refine ⟨le1000 (by rw [List.length_map]; exact hl), ?_⟩
    refine comp_enc encRec (fun c => optN (barOf r g c)) _ (fun c hcm => ⟨_, rfl, fun Q' q' => in_bar_of (E := E0') (hc c hcm) q'⟩) ?_
    walk_at "ds"
    have e1 : (List.map (fun c => optN (barOf r g c)) cs) = (cs.map (barOf r g)).map optN := by rw [List.map_map]; rfl
    rw [e1]
    refine ⟨le1000 (by rw [enumD_length, List.length_map, List.length_map]; exact hl), ?_⟩
    refine comp_barred (fun n o Q' q' => ?_) (fun n k Q' q' => q') (cs.map (barOf r g)) 0 _ ?_
    · cases o with
      | none => exact q'
      | some k => exact q'
    · unfold sApp
      walk_at "ds"
      refine head_or ?_
      rw [fst_barred]
      refine ⟨by rw [List.length_map]; exact small1000 (by simp only [List.length_cons] at hn; omega), ?_⟩
      have := loop_bars r cs fam hl hc e s7 s8 s9 s10 gs (acc ++ [fstBar r g 0 cs]) (.val g.enc) (.val (.list ((cs.map (barOf r g)).map optN))) (.val (.list ((barredL 0 (cs.map (barOf r g))).map encNP))) (by simp only [List.length_append, List.length_cons, List.length_nil] at hn ⊢; omega) (fun s4 s5 s6 => by
        have := q s4 s5 s6
        simp only [barsL, List.map_cons] at this
        simpa [barsL] using this)
      rw [List.map_append] at this
      exact this
end
end HC
/-! HM15: bars, remains, groups. -/
namespace HC
open PySem PySem.Spec PyProof.Rows L2
local macro_rules | `(tactic| walk_at "ds") => `(tactic| try simp only [endD, startD, startT, List.map_cons, List.map_nil, List.length_cons, List.length_nil, List.replicate, List.cons_append, List.nil_append, Nat.reduceSub, Nat.reduceAdd, sSeq, sRet, sIf, sNil, sAsg, sUnp, sExpr, sPar2, sPar3, xCons, xNil, xVal, xOwn, bTest, bNot, bAnd, bOr, wVar, wPeek, slot, wC, wOp2, wB, wCons, wNil, wTup, wLst, wIf, wAnd, wOr, wNot, wNeg, wCall, wCallT, wSl, wPart, wNoPart, List.set, ex1, gT_t, gT_st, gT_pr, gC_c, gN_c, gNil_c, sRaise, wChain, sFrz, frz, wIsi, wTabIn, wTabAt, sAug, wDisp1, wNewT, wComp, iSeq, iRange, iEnumD, Bool.false_eq_true, if_false, if_true,
  fAdd_i, fAdd_s, fAdd_l, fAdd_t, fSub_i, fLt_i, fLe_i, fGt_i, fGe_i, fEq_i, fNe_i, fIs_b, fIsN_b, gMin_2, gMax_2, gLen_l, gLen_t, fIx_rm0, fIx_rm1, fIx_rm2, fIx_st0, fIx_st1, fIx_st2, fIx_rg0, fIx_rg1, fIx_rg2, fSl_rg, fEq_gap, fEq_stay, fEq_late, fEq_look, fEq_lean])
section
variable {Q : D → Prop} {E : Addr → Prop}
theorem sem_bars (x : Xc) : ∀ ds Q E, sp_bars x ds Q E → t_bars x (endD Q E) (startD 11 ds) := by
  rintro _ Q E ⟨⟨a, b, c⟩, rfl, ⟨h1, h2, h3⟩, q⟩
  replace h3 : c.plain = true := h3
  unfold t_bars
  walk_at "ds"
  rcases chkRecs_or q with ⟨g1, q⟩ | ⟨g1, g2, q⟩ | ⟨g1, g2, g3, qe⟩ | ⟨r, gs, cs, rfl, rfl, rfl, ok, ⟨l1, l8, gk⟩, ⟨c1, c12, ck⟩, q⟩
  · exact fam_bad1 h1 h2 g1 q
  · exact fam_bad2 h1 h2 g1 g2 q
  · refine fam_ok h1 h2 g1 g2 ?_
    simp only [isT_lst h3, ex1]
    have nl : ∀ {b : Bool} {A : Prop}, b = false → if (!b) = true then E x.badMarks else A := fun hb => by rw [hb]; exact qe
    by_cases hc : ∃ ds, c = .list ds
    case neg =>
      refine nl ?_
      cases c <;> first | rfl | exact absurd ⟨_, rfl⟩ hc
    obtain ⟨ds, rfl⟩ := hc
    simp only [isLstD, Bool.not_true, Bool.false_eq_true, if_false]
    replace g3 : recsF ds = false := g3
    unfold recsF at g3
    simp only [gLen_l, fLe_i]
    by_cases k1 : 1 ≤ ds.length
    · rw [decide_eq_true k1, Bool.true_and] at g3
      rw [decide_eq_true (show (1 : Int) ≤ (ds.length : Int) by omega)]
      simp only [if_true]
      by_cases k2 : ds.length ≤ 12
      · rw [decide_eq_true k2, Bool.true_and] at g3
        rw [decide_eq_true (show (ds.length : Int) ≤ 12 by omega)]
        simp only [Bool.not_true, Bool.false_eq_true, if_false]
        refine ⟨le1000 (by omega), ?_⟩
        refine comp_map (fun d => .bool (isRecF d)) ds (fun d hd => ⟨_, rfl, fun Q' q' => in_is_record (E := E0') (plain_of h3 hd) q'⟩) ?_
        rw [all_bools, g3]
        exact qe
      · rw [decide_eq_false (show ¬ (ds.length : Int) ≤ 12 by omega)]
        exact qe
    · rw [decide_eq_false (show ¬ (1 : Int) ≤ (ds.length : Int) by omega)]
      exact qe
  · refine fam_ok h1 h2 (room_enc ok) (fam_enc l1 l8 gk).1 ?_
    refine ⟨true, by rw [isT_lst h3]; rfl, ?_⟩
    simp only [Bool.not_true, Bool.false_eq_true, if_false, gLen_l, fLe_i, List.length_map]
    rw [decide_eq_true (show (1 : Int) ≤ (cs.length : Int) by omega), decide_eq_true (show (cs.length : Int) ≤ 12 by omega)]
    simp only [if_true, Bool.not_true, Bool.false_eq_true, if_false]
    refine ⟨le1000 (by omega), ?_⟩
    refine comp_enc encRec (fun c => .bool (isRecF (encRec c))) _ (fun c hc => ⟨_, rfl, fun Q' q' => in_is_record (E := E0') (sh_rec c).pl q'⟩) ?_
    have e0 : List.map (fun c => D.bool (isRecF (encRec c))) cs = (cs.map encRec).map fun d => D.bool (isRecF d) := by rw [List.map_map]; rfl
    rw [e0, all_bools]
    have e1 : (cs.map encRec).all isRecF = true := by rw [List.all_map, List.all_eq_true]; exact fun c hc => (rec_enc (ck c hc)).1
    rw [e1]
    simp only [Bool.not_true, Bool.false_eq_true, if_false]
    unfold sFor
    walk_at "ds"
    exact loop_bars r cs _ (by omega) (fun c hc => by have := (ck c hc).l60; omega) _ _ _ _ _ gs [] .un .un .un (by simp; omega) fun s4 s5 s6 => q
theorem in_bars {x : Xc} {a b c : D} {k : Rm → List Rg → List Rec → Ex} (h : pl3 (a, b, c)) {Q1 : D → Prop} (q : outE Q E (chkRecs x (a, b, c) k))
    (hq : ∀ r gs cs, Rm.Ok r → (1 ≤ gs.length ∧ gs.length ≤ 8 ∧ ∀ g ∈ gs, Rg.Ok r.top g) → (1 ≤ cs.length ∧ cs.length ≤ 12 ∧ ∀ c ∈ cs, Rec.Ok c) → outE Q E (k r gs cs) → Q1 (.list ((barsL r gs cs).map optP))) : sp_bars x [a, b, c] Q1 E := by
  refine ⟨(a, b, c), rfl, h, ?_⟩
  show outE Q1 E (chkRecs x (a, b, c) fun r gs cs => .ok (.list ((barsL r gs cs).map optP)))
  unfold chkRecs chkFam
  rcases chkRecs_or q with ⟨g1, q⟩ | ⟨g1, g2, q⟩ | ⟨g1, g2, g3, q⟩ | ⟨r, gs, cs, rfl, rfl, rfl, ok, ⟨l1, l8, gk⟩, ⟨c1, c12, ck⟩, q⟩
  · rw [if_neg (by simp [g1])]; exact q
  · rw [if_pos g1, if_neg (by simp [g2])]; exact q
  · rw [if_pos g1, if_pos g2, if_neg (by simp [g3])]; exact q
  · have e1 : isFamF (.list (gs.map Rg.enc)) (topOf r.enc) = true := (fam_enc l1 l8 gk).1
    simp only [room_enc ok, e1, (recs_enc c1 c12 ck).1, (fam_enc l1 l8 gk).2, (recs_enc c1 c12 ck).2, if_true]
    exact hq r gs cs ok ⟨l1, l8, gk⟩ ⟨c1, c12, ck⟩ q
theorem comp_none {tt : TB} {te : TP} {r : Env} (h1 : ∀ (n : Nat) (o : Option (Nat × Nat)) (Q' : Bool → Prop), Q' o.isNone → tt ((r.set 3 (.val (.int n))).set 4 (.val (optP o))) Q' E0') (h2 : ∀ (n : Nat) (d : D) (Q' : D → Prop), Q' (.int n) → te ((r.set 3 (.val (.int n))).set 4 (.val d)) Q' E0') (all : List (Option (Nat × Nat))) :
    ∀ (os : List (Option (Nat × Nat))) (n : Nat) (Q : List D → Prop), all.drop n = os → Q (((List.range' n os.length).filter fun i => (all[i]?).getD (some (0, 0)) == none).map fun (k : Nat) => D.int (k : Int)) → compW (gT (gCons' (gN 3) (gCons' (gN 4) gNil'))) tt te r (enumD n (os.map optP)) Q
  | [], n, Q, hd, q => q
  | o :: os, n, Q, hd, q => by
    have ho : all[n]? = some o := by
      have := congrArg (·[0]?) hd
      simpa using this
    have hdrop : all.drop (n + 1) = os := by
      have := congrArg List.tail hd
      rw [List.tail_drop] at this
      exact this
    refine ⟨_, rfl, h1 n o _ ?_⟩
    rw [List.length_cons, List.range'_succ] at q
    cases o with
    | none =>
      rw [List.filter_cons_of_pos (by rw [ho]; rfl), List.map_cons] at q
      exact h2 n _ _ (comp_none h1 h2 all os (n + 1) (fun ys => Q (.int n :: ys)) hdrop q)
    | some p =>
      rw [List.filter_cons_of_neg (by rw [ho]; simp)] at q
      exact comp_none h1 h2 all os (n + 1) Q hdrop q
theorem sem_remains (x : Xc) : ∀ ds Q E, sp_remains x ds Q E → t_remains x (endD Q E) (startD 5 ds) := by
  rintro _ Q E ⟨⟨a, b, c⟩, rfl, h, q⟩
  unfold t_remains
  walk_at "ds"
  refine in_bars h q fun r gs cs ok ⟨l1, l8, gk⟩ ck q => ?_
  have hb : (barsL r gs cs).length = gs.length := by unfold barsL; rw [List.length_map]
  refine ⟨le1000 (by rw [enumD_length, List.length_map, hb]; omega), ?_⟩
  refine comp_none (fun n o Q' q' => ?_) (fun n d Q' q' => q') (barsL r gs cs) (barsL r gs cs) 0 _ rfl ?_
  · cases o with
    | none => exact q'
    | some p => exact q'
  · replace q : Q (encNs (remL r gs cs)) := q
    unfold remL encNs at q
    rw [hb, ← List.range_eq_range']
    exact q
theorem sem_groups (x : Xc) : ∀ ds Q E, sp_groups x ds Q E → t_groups x (endD Q E) (startD 4 ds) := by
  rintro _ Q E ⟨⟨a, b, c⟩, rfl, ⟨h1, h2, h3⟩, q⟩
  replace q : outE Q E (chkFam x a b (if isRowF c = true then .ok (encGrps (grpD (((lstOf b).map rgOf).map fun g => encIs (sws (rmOf a) g (isOf c))))) else .error x.badWeather)) := q
  unfold t_groups
  walk_at "ds"
  unfold chkFam at q
  cases hr : isRoomF a with
  | false =>
    rw [if_neg (by simp [hr])] at q
    exact fam_bad1 h1 h2 hr q
  | true =>
    rw [if_pos hr] at q
    cases hf : isFamF b (topOf a) with
    | false =>
      rw [if_neg (by simp [hf])] at q
      exact fam_bad2 h1 h2 hr hf q
    | true =>
      rw [if_pos hf] at q
      refine fam_ok h1 h2 hr hf ?_
      cases hw : isRowF c with
      | false =>
        rw [if_neg (by simp [hw])] at q
        exact row_bad h3 hw q
      | true =>
        rw [if_pos hw] at q
        refine row_ok h3 hw ?_
        obtain ⟨r, ok, rfl⟩ := isRoomF_top hr
        obtain ⟨gs, rfl, l1, l8, gk, e⟩ := fam_is hf
        obtain ⟨ws, rfl, hl, e2, hb⟩ := isRowF_is hw
        rw [e, e2] at q
        replace q : Q (encGrps (grpD (gs.map fun g => encIs (sws r g ws)))) := q
        refine ⟨le1000 (by rw [List.length_map]; omega), ?_⟩
        refine comp_enc Rg.enc (fun g => encIs (sws r g ws)) _ (fun g hg => ⟨_, rfl, fun Q' q' => in_switches_of (E := E0') (by omega) q'⟩) ?_
        exact in_groups_by (by rw [List.length_map]; omega) (fun d hd => by
          obtain ⟨g, _, rfl⟩ := List.mem_map.mp hd
          exact (sh_is _).mono (by omega)) q
end
end HC
/-! HM16: calls at given families and records. -/
namespace HC
open PySem PySem.Spec PyProof.Rows L2
section
variable {x : Xc} {r : Rm} {g : Rg} {gs : List Rg} {cs : List Rec} {c : Rec} {ws : List Int} {Q : D → Prop} {E : Addr → Prop}
theorem pl_rec (c : Rec) : (encRec c).plain = true := (sh_rec c).pl
theorem pl_fam (gs : List Rg) : (D.list (gs.map Rg.enc)).plain = true := (sh_list (sh_map (fun g => sh_rg g) gs)).pl
theorem pl_recs (cs : List Rec) : (D.list (cs.map encRec)).plain = true := (sh_list (sh_map (fun g => sh_rec g) cs)).pl
structure GivenF (r : Rm) (gs : List Rg) : Prop where
  ok : r.Ok
  l1 : 1 ≤ gs.length
  l8 : gs.length ≤ 8
  gk : ∀ g ∈ gs, g.Ok r.top
theorem one_chk (ok : r.Ok) (gk : g.Ok r.top) (ck : Rec.Ok c) {k : Rm → Rg → Rec → Ex} : chkOne x (r.enc, g.enc, encRec c) k = k r g c := by
  unfold chkOne chkRg
  have e1 : isForF g.enc (topOf r.enc) = true := (rg_enc gk).1
  simp only [room_enc ok, e1, (rec_enc ck).1, (rg_enc gk).2, (rec_enc ck).2, if_true]
  rfl
theorem at_first_bar (ok : r.Ok) (gk : g.Ok r.top) (ck : Rec.Ok c) (q : Q (optN (barOf r g c))) : sp_first_bar x [r.enc, g.enc, encRec c] Q E := spEx_ok (a := (r.enc, g.enc, encRec c)) ⟨pl_rm, pl_rg, pl_rec c⟩ (one_chk ok gk ck) q
theorem at_made (ok : r.Ok) (gk : g.Ok r.top) (ck : Rec.Ok c) (q : Q (.bool (barOf r g c).isNone)) : sp_made x [r.enc, g.enc, encRec c] Q E := spEx_ok (a := (r.enc, g.enc, encRec c)) ⟨pl_rm, pl_rg, pl_rec c⟩ (one_chk ok gk ck) q
theorem GivenF.chk (G : GivenF r gs) {k : Ex} : chkFam x r.enc (.list (gs.map Rg.enc)) k = k := by
  unfold chkFam
  have e1 : isFamF (.list (gs.map Rg.enc)) (topOf r.enc) = true := (fam_enc G.l1 G.l8 G.gk).1
  simp only [room_enc G.ok, e1, if_true]
theorem GivenF.chks (G : GivenF r gs) (c1 : 1 ≤ cs.length) (c12 : cs.length ≤ 12) (ck : ∀ c ∈ cs, Rec.Ok c) {k : Rm → List Rg → List Rec → Ex} : chkRecs x (r.enc, .list (gs.map Rg.enc), .list (cs.map encRec)) k = k r gs cs := by
  unfold chkRecs
  rw [G.chk]
  simp only [(recs_enc c1 c12 ck).1, (fam_enc G.l1 G.l8 G.gk).2, (recs_enc c1 c12 ck).2, if_true]
  rfl
theorem at_bars (G : GivenF r gs) (c1 : 1 ≤ cs.length) (c12 : cs.length ≤ 12) (ck : ∀ c ∈ cs, Rec.Ok c) (q : Q (.list ((barsL r gs cs).map optP))) : sp_bars x [r.enc, .list (gs.map Rg.enc), .list (cs.map encRec)] Q E :=
  spEx_ok (a := (r.enc, D.list (gs.map Rg.enc), D.list (cs.map encRec))) ⟨pl_rm, pl_fam gs, pl_recs cs⟩ (G.chks c1 c12 ck) q
theorem at_remains (G : GivenF r gs) (c1 : 1 ≤ cs.length) (c12 : cs.length ≤ 12) (ck : ∀ c ∈ cs, Rec.Ok c) (q : Q (encNs (remL r gs cs))) : sp_remains x [r.enc, .list (gs.map Rg.enc), .list (cs.map encRec)] Q E :=
  spEx_ok (a := (r.enc, D.list (gs.map Rg.enc), D.list (cs.map encRec))) ⟨pl_rm, pl_fam gs, pl_recs cs⟩ (G.chks c1 c12 ck) q
theorem at_groups (G : GivenF r gs) (hl : ws.length ≤ 60) (hb : ∀ w ∈ ws, 1 ≤ w ∧ w ≤ 3) (q : Q (encGrps (grpD (gs.map fun g => encIs (sws r g ws))))) : sp_groups x [r.enc, .list (gs.map Rg.enc), encIs ws] Q E :=
  spEx_ok (a := (r.enc, D.list (gs.map Rg.enc), encIs ws)) ⟨pl_rm, pl_fam gs, pl_is⟩ (by
    show chkFam x r.enc (.list (gs.map Rg.enc)) (if isRowF (encIs ws) = true then .ok (encGrps (grpD (((lstOf (.list (gs.map Rg.enc))).map rgOf).map fun g => encIs (sws (rmOf r.enc) g (isOf (encIs ws)))))) else .error x.badWeather) = _
    rw [G.chk, if_pos (row_enc hl hb).1, (row_enc hl hb).2, (fam_enc G.l1 G.l8 G.gk).2]
    rfl) q
/-! ### the first bar of many records -/
theorem barred_fst : ∀ (os : List (Option Nat)) (n : Nat), (barredL n os).map Prod.fst = (List.range' n os.length).filter fun k => (os[k - n]?).join.isSome
  | [], n => rfl
  | o :: os, n => by
    rw [List.length_cons, List.range'_succ]
    have e : ((List.range' (n + 1) os.length).filter fun k => ((o :: os)[k - n]?).join.isSome) = (List.range' (n + 1) os.length).filter fun k => (os[k - (n + 1)]?).join.isSome := by
      refine List.filter_congr fun k hk => ?_
      have hk' := List.mem_range'_1.mp hk
      have : k - n = (k - (n + 1)) + 1 := by omega
      rw [this]
      simp
    cases o with
    | none =>
      rw [List.filter_cons_of_neg (by simp), e]
      exact barred_fst os (n + 1)
    | some j =>
      rw [List.filter_cons_of_pos (by simp), e]
      exact congrArg (n :: ·) (barred_fst os (n + 1))
theorem barred_at : ∀ (os : List (Option Nat)) (n : Nat) (p : Nat × Nat), p ∈ barredL n os → n ≤ p.1 ∧ os[p.1 - n]? = some (some p.2)
  | [], n, p, h => by cases h
  | none :: os, n, p, h => by
    have := barred_at os (n + 1) p h
    refine ⟨by omega, ?_⟩
    have e : p.1 - n = (p.1 - (n + 1)) + 1 := by omega
    rw [e]
    exact this.2
  | some j :: os, n, p, h => by
    rcases List.mem_cons.mp h with rfl | h
    · exact ⟨Nat.le_refl _, by simp⟩
    · have := barred_at os (n + 1) p h
      refine ⟨by omega, ?_⟩
      have e : p.1 - n = (p.1 - (n + 1)) + 1 := by omega
      rw [e]
      exact this.2
end
end HC
/-! HM17: plain laws on groups and bars. -/
namespace HC
open PySem PySem.Spec PyProof.Rows L2
theorem dIn_enc {α : Type} [DecidableEq α] {f : α → D} (h : Enc f) (a : α) : ∀ l : List α, dIn (f a) (l.map f) = decide (a ∈ l)
  | [] => by simp [dIn]
  | b :: l => by
    have ih := dIn_enc h a l
    unfold dIn at ih ⊢
    rw [List.map_cons, List.any_cons, ih, h.deq]
    by_cases e : a = b
    · subst e; simp
    · have e' : ¬ b = a := fun z => e z.symm
      simp [e, e']
theorem eqAt_enc {α : Type} [DecidableEq α] {f : α → D} (h : Enc f) {l : List α} {i j : Nat} (hi : i < l.length) (hj : j < l.length) : eqAtD (l.map f) i j = decide (l[i]? = l[j]?) := by
  unfold eqAtD
  rw [List.getElem?_map, List.getElem?_map, List.getElem?_eq_getElem hi, List.getElem?_eq_getElem hj]
  show deq (f _) (f _) = _
  rw [h.deq]
  simp
theorem grp_of {α : Type} [DecidableEq α] {f : α → D} (h : Enc f) (l : List α) {k : Nat} (hk : k < l.length) : ∃ rest, ((grpD (l.map f)).filter fun G => decide (k ∈ G)) = ((List.range l.length).filter fun j => decide (l[j]? = l[k]?)) :: rest := by
  have all : ∀ G ∈ (grpD (l.map f)).filter (fun G => decide (k ∈ G)), G = (List.range l.length).filter fun j => decide (l[j]? = l[k]?) := by
    intro G hG
    obtain ⟨hG, hkG⟩ := List.mem_filter.mp hG
    have hkG := of_decide_eq_true hkG
    unfold grpD at hG
    obtain ⟨i, hi, rfl⟩ := List.mem_map.mp hG
    have hi' := List.mem_range.mp (List.mem_filter.mp hi).1
    rw [List.length_map] at hi' hkG ⊢
    obtain ⟨_, e⟩ := List.mem_filter.mp hkG
    rw [eqAt_enc h hk hi'] at e
    have e := of_decide_eq_true e
    refine List.filter_congr fun j hj => ?_
    rw [eqAt_enc h (List.mem_range.mp hj) hi', e]
  have some' : ∃ G, G ∈ (grpD (l.map f)).filter (fun G => decide (k ∈ G)) := by
    have hm : l[k] ∈ l := List.getElem_mem hk
    have hi := List.idxOf_lt_length_of_mem hm
    refine ⟨(List.range l.length).filter fun j => eqAtD (l.map f) j (l.idxOf l[k]), List.mem_filter.mpr ⟨?_, decide_eq_true ?_⟩⟩
    · unfold grpD
      rw [List.length_map]
      refine List.mem_map.mpr ⟨l.idxOf l[k], List.mem_filter.mpr ⟨List.mem_range.mpr hi, ?_⟩, rfl⟩
      unfold firstD
      rw [List.getElem?_map, List.getElem?_eq_getElem hi]
      show (!dIn (f _) ((l.map f).take _)) = true
      rw [← List.map_take, dIn_enc h, List.getElem_idxOf]
      rw [decide_eq_false]
      · rfl
      · intro hmem
        obtain ⟨m, hm1, hm2⟩ := List.mem_take_iff_getElem.mp hmem
        have hlt : m < l.idxOf l[k] := by omega
        have := List.not_of_lt_findIdx (p := (· == l[k])) (xs := l) (i := m) hlt
        simp [hm2] at this
    · refine List.mem_filter.mpr ⟨List.mem_range.mpr hk, ?_⟩
      rw [eqAt_enc h hk hi, List.getElem?_eq_getElem hi, List.getElem_idxOf, List.getElem?_eq_getElem hk]
      simp
  obtain ⟨G, hG⟩ := some'
  cases e : (grpD (l.map f)).filter (fun G => decide (k ∈ G)) with
  | nil => rw [e] at hG; cases hG
  | cons a rest =>
    refine ⟨rest, ?_⟩
    rw [all a (by rw [e]; simp)]
theorem barF_none : ∀ (as bs : List Int) (n : Nat), as.length = bs.length → (barF n as bs = none ↔ as = bs)
  | [], [], n, _ => by simp [barF]
  | a :: as, b :: bs, n, h => by
    rw [barF]
    by_cases e : a = b
    · subst e
      rw [if_pos rfl, barF_none as bs (n + 1) (by simpa using h)]
      simp
    · rw [if_neg e]
      simp [e]
  | [], _ :: _, _, h => by simp at h
  | _ :: _, [], _, h => by simp at h
end HC
/-! HY1: xs + ys as a new list, xs.count(i), the classes of exceptions. -/
namespace HC
open PySem PySem.Spec PyProof.Rows L2
/-! ### xs + ys, a new list -/
def fAddL : B2
  | .list a, .list b, Q => a.length + b.length ≤ sizeLine ∧ Q (.list (a ++ b))
  | _, _, _ => False
theorem mo_addL : Mo2 fAddL := ⟨fun {x y Q Q'} hq h => by
  unfold fAddL at h ⊢
  split at h
  · exact ⟨h.1, hq _ h.2⟩
  · exact h⟩
theorem fAddL_l {ds es : List D} {Q : D → Prop} : fAddL (.list ds) (.list es) Q = (ds.length + es.length ≤ sizeLine ∧ Q (.list (ds ++ es))) := rfl
section
variable {X : Cx} {C : Ct} {W : XW} {k : Nat} {a b : Expr} {ta tb : TP} {pos : Pos}
theorem dn_add (ha : DE X C W a ta) (hb : DE X C W b tb) : DN X C W (.BinOp a .Add b pos) (wOp2 fAddL ta tb) := by
  refine ⟨(pe_op op_cat ha.pe hb.pe).imp fun σ H Q ⟨M, r, E, S, hW, q⟩ => ⟨M, r, E, S, hW, ha.mo.imp (fun x q1 v1 H1 k1 S1 p1 => ⟨M, r, E, S1, hW.mono k1, hb.mo.imp (fun y q2 v2 H2 k2 S2 p2 => ?_) (fun _ z => z) q1⟩) (fun _ z => z) q⟩, mono_op2 mo_addL ha.mo hb.mo⟩
  unfold fAddL at q2
  split at q2
  · have p1' := S1.rq k2 p1
    obtain ⟨l, xs, rfl, e1, r1⟩ := p1'.lst
    obtain ⟨l2, xs2, rfl, e2, r2⟩ := p2.lst
    refine ⟨l, l2, xs, xs2, rfl, rfl, e1, e2, by rw [r1.length, r2.length]; exact q2.1, fun p hp => ?_⟩
    have S3 := S2.take (p := p) (H' := upd H2 p (.lst (xs ++ xs2))) hp (same_upd hp) (by rw [upd_same]; simp)
    refine q2.2 p _ ((k1.trans k2).trans (Same.ex (same_upd hp))) (S1.none_of k1 (S2.none_of k2 hp)) S3 (.lst upd_same ?_)
    exact HC.RpA.step (fun a o e m => ⟨same_upd hp a o e, fun z => z.elim m fun q => by rw [q, hp] at e; cases e⟩) (r1.append r2)
  · exact q2.elim
end
/-! ### xs.count(i) -/
def gCountI : Mn := fun ds ys Q => ∃ ns i, dInts ds = some ns ∧ ys = [.int i] ∧ Q (.int (ns.count i : Nat))
theorem mo_countI : MoM gCountI := ⟨fun hq ⟨bs, i, a, b, q⟩ => ⟨bs, i, a, b, hq _ q⟩⟩
def isIV (i : Int) : Value → Bool
  | .int j _ => decide (j = i)
  | _ => false
theorem count_ints {i : Int} : ∀ {ns : List Int} {its : List Value}, Vals (ns.map V.int) its → its.countP (isIV i) = ns.count i ∧ ∀ y ∈ its, ∃ j t, y = .int j t
  | [], _, .nil => ⟨rfl, fun y h => by cases h⟩
  | b :: bs, _, .cons r t => by
    obtain ⟨h1, h2⟩ := count_ints t
    obtain ⟨tt, r⟩ : ∃ t, _ = Value.int b t := r
    subst r
    refine ⟨?_, fun y hy => ?_⟩
    · rw [List.countP_cons, h1, List.count_cons]
      show _ + (if decide (b = i) = true then 1 else 0) = _ + if (b == i) = true then 1 else 0
      rw [Bool.beq_eq_decide_eq]
    · rcases List.mem_cons.mp hy with rfl | hy
      · exact ⟨b, tt, rfl⟩
      · exact h2 y hy
section
variable {X : Cx} {C : Ct} {W : XW} {k : Nat}
theorem mt_countI (F : Fit X C) : MtR X "list.count" (rDm C gCountI) := by
  refine fit_cases (X := X) (motive := fun C => MtR X "list.count" (rDm C gCountI)) (fun T M0 H0 => ?_) C F
  intro pins s σ H x xs v us Q I rx rxs ⟨M, ds, ys, r1, r2, dm, ns, i, hb, e, q⟩
  subst e
  obtain ⟨w, rfl, r3⟩ := rq1 r2
  cases of_ints hb
  obtain ⟨a, zs, rfl, ea, pa⟩ := r1.lst
  have ez := HC.RpA.ofInts pa
  subst ez
  have ew := r3.int
  subst ew
  cases rx
  obtain ⟨u, rfl, ru⟩ := rxs.one
  obtain ⟨ti, ru⟩ : ∃ t, u = Value.int i t := ru
  subst ru
  obtain ⟨its, rv, ⟨⟨cls, dd, data, sl⟩, n, ho, hc, hdn, hd⟩, hlen⟩ := I.list (SqL.of ea)
  simp only at hc hd
  subst hc hd
  obtain ⟨c1, c2⟩ := count_ints (i := i) rv
  refine call_meets PySem.F.slot_list_count ⟨_, ho, rfl⟩ PySem.F.entry_list_count (PySem.F.args_list_count_2 _ _)
    (SeqAt.list_countAt a its.toArray n dd sl (.int i ti) (isIV i)) ⟨ho, fun y hy => ?_, ?_⟩
  · obtain ⟨j, t, rfl⟩ := c2 y (by simpa using hy)
    have := eqAt_leaf (A := X.A.in1) (s := s) (x := .num j) (y := .num i) (u := .int j t) (v := .int i ti) (by simp [Leaf.isOf]) (by simp [Leaf.isOf])
    have e : decide (Leaf.num j = Leaf.num i) = isIV i (.int j t) := by
      show _ = decide (j = i)
      by_cases h : j = i <;> simp [h]
    rw [e] at this
    exact this
  · refine ⟨.int (ns.count i : Nat), H, I.tok _, ⟨s.toks, ?_⟩, q _ _ Same.refl' (.int _)⟩
    show Value.int ((its.toArray.toList.countP (isIV i) : Nat) : Int) s.toks = Value.int ((ns.count i : Nat) : Int) s.toks
    rw [show its.toArray.toList = its from rfl, c1]
end
/-! ### the classes of exceptions -/
theorem boot_ValueError' : bootBuiltins "ValueError" = some (.type "ValueError") := by decide +kernel
def Xc.all (x : Xc) : List Addr := [x.badRoom, x.badRegulator, x.badWeather, x.badMarks, x.badNumber, x.badText, x.notFound]
def Xc.has (x : Xc) (c : Addr) : Prop := c ∈ x.all
def Xc.isF (x : Xc) (k c : Addr) : Option Bool := if c ∈ x.all then some (decide (c = k)) else none
def Xc.yesF (x : Xc) (c : Addr) : Option Bool := if c ∈ x.all then some true else none
structure XAll (K : PySem.W.Frag) (x : Xc) : Prop where
  pt : ∀ c ∈ x.all, XIs K c ∧ PySem.W.exmOne K (.ref c) (.ref x.heatError) = some true ∧ PySem.W.kitOne K (.ref c) (.ref x.heatError) = some true ∧ PySem.W.kitOne K (.ref c) (.type "ValueError") = some true ∧ ∀ k ∈ x.all, PySem.W.kitOne K (.ref c) (.ref k) = some (decide (c = k))
  nd : x.all.Nodup
section
variable {K : PySem.W.Frag} {x : Xc}
theorem kit_own {c k : Addr} {b : Bool} (hc : (PySem.W.clsIn K k).isSome = true) (ht : PySem.W.typeIn K (.ref k) = some (.type "type")) (hs : PySem.W.subIn K (.ref c) (.ref k) = some b) (hb : c = k → b = true) : PySem.W.kitOne K (.ref c) (.ref k) = some b := by
  unfold PySem.W.kitOne
  split
  · rename_i h
    have : Value.ref c = Value.ref k := beq_iff_eq.mp h
    injection this with this
    rw [hb this]
  · show (if ((PySem.W.clsIn K k).isSome && PySem.W.typeIn K (.ref k) == some (.type "type")) = true then PySem.W.subIn K (.ref c) (.ref k) else none) = _
    rw [hc, ht, if_pos (by simp), hs]
theorem exm_own {c k : Addr} (hb : PySem.W.subIn K (.ref k) (.type "BaseException") = some true) (hc : (PySem.W.clsIn K k).isSome = true) (ht : PySem.W.typeIn K (.ref k) = some (.type "type")) (hs : PySem.W.subIn K (.ref c) (.ref k) = some true) : PySem.W.exmOne K (.ref c) (.ref k) = some true := by
  unfold PySem.W.exmOne
  rw [hb, if_pos (by simp)]
  show (if ((PySem.W.clsIn K k).isSome && PySem.W.typeIn K (.ref k) == some (.type "type")) = true then PySem.W.subIn K (.ref c) (.ref k) else none) = _
  rw [hc, ht, if_pos (by simp), hs]
theorem kit_val {c : Addr} (hs : PySem.W.subIn K (.ref c) (.type "ValueError") = some true) : PySem.W.kitOne K (.ref c) (.type "ValueError") = some true := by
  unfold PySem.W.kitOne
  split
  · rfl
  · show (if PySem.W.kitMeta "ValueError" = true then PySem.W.subIn K (.ref c) (.type "ValueError") else none) = _
    rw [if_pos (by decide +kernel), hs]
/-- what is asked of one class -/
structure XOne (K : PySem.W.Frag) (h c : Addr) : Prop where
  cl : (PySem.W.clsIn K c).isSome = true
  ty : PySem.W.typeIn K (.ref c) = some (.type "type")
  ga : PySem.W.findIn K (.ref c) "__getattribute__" = some (some (.builtin "BaseException.__getattribute__"))
  gt : PySem.W.findIn K (.ref c) "__getattr__" = some none
  sub : PySem.W.subIn K (.ref c) (.type "BaseException") = some true
  ha : PySem.W.findIn K (.ref c) "__class__" = some (some (.builtin "object.__class__"))
  hm : PySem.W.mroIn K c (.type "object") = some true
  sh : PySem.W.subIn K (.ref c) (.ref h) = some true
  sv : PySem.W.subIn K (.ref c) (.type "ValueError") = some true
theorem xall_of (hh : PySem.W.subIn K (.ref x.heatError) (.type "BaseException") = some true ∧ (PySem.W.clsIn K x.heatError).isSome = true ∧ PySem.W.typeIn K (.ref x.heatError) = some (.type "type"))
    (hn : PySem.W.specialIn K (.builtin "object.__class__") "__get__" = some (some (.builtin "getset_descriptor.__get__"))) (tk : PySem.W.takesIn K (.builtin "object.__class__") = some true)
    (h1 : ∀ c ∈ x.all, XOne K x.heatError c) (h2 : ∀ c ∈ x.all, ∀ k ∈ x.all, PySem.W.subIn K (.ref c) (.ref k) = some (decide (c = k))) (nd : x.all.Nodup) : XAll K x := by
  refine ⟨fun c hc => ?_, nd⟩
  have o := h1 c hc
  refine ⟨⟨o.cl, o.ga, o.gt, o.sub, o.ha, hn, tk, o.hm⟩, exm_own hh.1 hh.2.1 hh.2.2 o.sh, kit_own hh.2.1 hh.2.2 o.sh (fun _ => rfl), kit_val o.sv, fun k hk => ?_⟩
  have p := h1 k hk
  exact kit_own p.cl p.ty (h2 c hc k hk) fun e => decide_eq_true e
theorem all7 {P : Addr → Prop} {a b c d e f g : Addr} (h1 : P a) (h2 : P b) (h3 : P c) (h4 : P d) (h5 : P e) (h6 : P f) (h7 : P g) : ∀ k ∈ [a, b, c, d, e, f, g], P k := by
  intro k hk
  simp only [List.mem_cons, List.mem_nil_iff, or_false, List.not_mem_nil] at hk
  rcases hk with rfl | rfl | rfl | rfl | rfl | rfl | rfl <;> assumption
theorem XAll.at (h : XAll K x) {c : Addr} (hc : c ∈ x.all) : XIs K c ∧ PySem.W.exmOne K (.ref c) (.ref x.heatError) = some true ∧ PySem.W.kitOne K (.ref c) (.ref x.heatError) = some true ∧ PySem.W.kitOne K (.ref c) (.type "ValueError") = some true ∧ ∀ k ∈ x.all, PySem.W.kitOne K (.ref c) (.ref k) = some (decide (c = k)) := h.pt c hc
theorem XAll.he (h : XAll K x) : ∀ c, x.has c → PySem.W.exmOne K (.ref c) (.ref x.heatError) = some true := fun c hc => (h.at hc).2.1
theorem XAll.isH (h : XAll K x) : ∀ c b, x.yesF c = some b → XIs K c ∧ PySem.W.kitOne K (.ref c) (.ref x.heatError) = some b := fun c b e => by
  unfold Xc.yesF at e
  split at e
  · rename_i hc
    cases e
    exact ⟨(h.at hc).1, (h.at hc).2.2.1⟩
  · cases e
theorem XAll.isV (h : XAll K x) : ∀ c b, x.yesF c = some b → XIs K c ∧ PySem.W.kitOne K (.ref c) (.type "ValueError") = some b := fun c b e => by
  unfold Xc.yesF at e
  split at e
  · rename_i hc
    cases e
    exact ⟨(h.at hc).1, (h.at hc).2.2.2.1⟩
  · cases e
theorem XAll.isK (h : XAll K x) {k : Addr} (hk : k ∈ x.all) : ∀ c b, x.isF k c = some b → XIs K c ∧ PySem.W.kitOne K (.ref c) (.ref k) = some b := fun c b e => by
  unfold Xc.isF at e
  split at e
  · rename_i hc
    cases e
    exact ⟨(h.at hc).1, (h.at hc).2.2.2.2 k hk⟩
  · cases e
end
end HC
/-! HD4: printed denotations. -/
namespace HC
open PySem PySem.Spec PyProof.Rows L2
def t__law_error (x : Xc) : TSD :=
  sSeq (sAsg 1 (xOwn (wLst (wCons (wIsX (x.isF x.badRoom) (wPeek 0)) (wCons (wIsX (x.isF x.badRegulator) (wPeek 0)) (wCons (wIsX (x.isF x.badWeather) (wPeek 0)) wNil))))))
    (sSeq (sAsg 1 (xOwn (wOp2 fAddL (wPeek 1) (wLst (wCons (wIsX (x.isF x.badMarks) (wPeek 0)) (wCons (wIsX (x.isF x.badNumber) (wPeek 0)) (wCons (wIsX (x.isF x.badText) (wPeek 0)) wNil)))))))
    (sSeq (sApp 1 (wIsX (x.isF x.notFound) (wPeek 0)))
    (sSeq (sIf (bOr (bTest (wOp2 fNe (wM gCountT (wPeek 1) (wCons (wC (.bool true)) wNil)) (wC (.int 1)))) (bOr (bNot (bTest (wIsX x.yesF (wPeek 0)))) (bNot (bTest (wIsX x.yesF (wPeek 0)))))) (sRet (wC (.str "odd"))) sNil)
    (sRet (wOp2 fIx (wLst (wCons (wC (.str "room")) (wCons (wC (.str "regulator")) (wCons (wC (.str "weather")) (wCons (wC (.str "marks")) (wCons (wC (.str "number")) (wCons (wC (.str "text")) (wCons (wC (.str "none")) wNil)))))))) (wM gIndex (wPeek 1) (wCons (wC (.bool true)) wNil)))))))
def t_best_weather (x : Xc) : TSD :=
  sSeq (sExpr (wCall (sp_check_family x) (wCons (wVar 0) (wCons (wVar 1) wNil))))
    (sSeq (sIf (bNot (bTest (wCall sp_is_record (wCons (wVar 2) wNil)))) (sRaise x.badMarks) sNil)
    (sSeq (sAsg 3 (xVal (wComp [8] (iSeq (wVar 1)) (gN 8) (bTest (wOp2 fIs (wCall sp_bar_of (wCons (wVar 0) (wCons (wVar 8) (wCons (wVar 2) wNil)))) (wC .none))) (wVar 8))))
    (sSeq (sIf (bTest (wOp2 fEq (wPeek 3) (wLst wNil))) (sRaise x.notFound) sNil)
    (sSeq (sAsg 4 (xVal (wComp [8] (iSeq (wVar 3)) (gN 8) bYes (wTup (wCons (wVar 8) (wCons (wOp2 fIx (wCall sp_states_of (wCons (wVar 0) (wCons (wVar 8) (wCons (wOp2 fIx (wPeek 2) (wC (.int 0))) wNil)))) (wNeg (wC (.int 1)))) wNil))))))
    (sSeq (sAsg 5 (xOwn (wLst wNil)))
    (sSeq (sFor (iSeq (wC d_WEATHERS)) (gN 6) (sSeq (sAsg 7 (xVal (wComp [8, 9] (iSeq (wVar 4)) (gT (gCons' (gN 8) (gCons' (gN 9) gNil'))) bYes (wOp2 fIx (wCall sp_step (wCons (wVar 0) (wCons (wVar 8) (wCons (wVar 9) (wCons (wVar 6) wNil))))) (wC (.int 1))))))
    (sApp 5 (wB gMax (wCons (wComp [10] (iSeq (wCall sp_groups_by (wCons (wVar 7) wNil))) (gN 10) bYes (wB gLen (wCons (wPeek 10) wNil))) wNil)))))
    (sRet (wOp2 fIx (wC d_WEATHERS) (wM gIndex (wPeek 5) (wCons (wB gMin (wCons (wPeek 5) wNil)) wNil))))))))))
end HC
/-! HY2: checks in turn, what a refused call tells. -/
namespace HC
open PySem PySem.Spec PyProof.Rows L2
theorem loopW_nil {g : GD} {body : TSD} {e : En} {r : Env} : loopW g body e [] r = e.nx r := rfl
local macro_rules | `(tactic| walk_at "ds") => `(tactic| try simp only [endD, startD, startT, endLaw, startLaw, List.map_cons, List.map_nil, List.length_cons, List.length_nil, List.replicate, List.cons_append, List.nil_append, Nat.reduceSub, Nat.reduceAdd, sSeq, sRet, sIf, sNil, sAsg, sUnp, sExpr, sPar2, sPar3, xCons, xNil, xVal, xOwn, bTest, bNot, bAnd, bOr, wVar, wPeek, slot, wC, wOp2, wB, wM, wCons, wNil, wTup, wLst, wIf, wAnd, wOr, wNot, wNeg, wCall, wCallT, wSl, wPart, wNoPart, List.set, ex1, gT_t, gT_st, gT_pr, gC_c, gN_c, gNil_c, sRaise, wChain, sFrz, frz, wIsi, wTabIn, wTabAt, sAug, wDisp1, wNewT, wComp, iSeq, iRange, gList_l, sFor, Bool.false_eq_true, if_false, if_true,
  fAdd_i, fAdd_s, fAdd_l, fAdd_t, fAddL_l, fSub_i, fLt_i, fLe_i, fGt_i, fGe_i, fEq_i, fNe_i, fIs_b, fIsN_b, fIs_nn, fIs_in, fIs_ln, fIs_tn, fIsN_nn, fIsN_in, fIsN_ln, fIsN_tn, gMin_2, gMax_2, gLen_l, gLen_t, fIx_rm0, fIx_rm1, fIx_rm2, fIx_st0, fIx_st1, fIx_st2, fIx_rg0, fIx_rg1, fIx_rg2, fSl_rg, fEq_gap, fEq_stay, fEq_late, fEq_look, fEq_lean])
/-! ### checks in turn -/
def onRg (x : Xc) (a b : D) (k : Rm → Rg → Ex) : Ex := if isRoomF a = true then (if isForF b (topOf a) = true then k (rmOf a) (rgOf b) else .error x.badRegulator) else .error x.badRoom
def onFam (x : Xc) (a b : D) (k : Rm → List Rg → Ex) : Ex := if isRoomF a = true then (if isFamF b (topOf a) = true then k (rmOf a) ((lstOf b).map rgOf) else .error x.badRegulator) else .error x.badRoom
def onRow (x : Xc) (a : D) (k : List Int → Ex) : Ex := if isRowF a = true then k (isOf a) else .error x.badWeather
def onRec (x : Xc) (a : D) (k : Rec → Ex) : Ex := if isRecF a = true then k (recOf a) else .error x.badMarks
def intOf : D → Int
  | .int i => i
  | _ => 0
def onNum (x : Xc) (a : D) (lo hi : Int) (k : Int → Ex) : Ex := if isIntF a lo hi = true then k (intOf a) else .error x.badNumber
section
variable {x : Xc} {Q Q1 : D → Prop} {E : Addr → Prop} {a b c : D}
theorem on_rg {k : Rm → Rg → Ex} (h1 : a.plain = true) (h2 : b.plain = true) (q : outE Q E (onRg x a b k)) (go : ∀ r g, r.Ok → g.Ok r.top → a = r.enc → b = g.enc → outE Q E (k r g) → Q1 .none) : sp_check_regulator x [a, b] Q1 E := by
  unfold onRg at q
  cases hr : isRoomF a with
  | false => rw [if_neg (by simp [hr])] at q; exact chk_bad1 h1 h2 hr q
  | true =>
    rw [if_pos hr] at q
    cases hf : isForF b (topOf a) with
    | false => rw [if_neg (by simp [hf])] at q; exact chk_bad2 h1 h2 hr hf q
    | true =>
      rw [if_pos hf] at q
      refine chk_ok h1 h2 hr hf ?_
      obtain ⟨r, ok, rfl⟩ := isRoomF_top hr
      obtain ⟨g, gk, e1, e2⟩ := isForF_rg hf
      rw [e2] at q
      exact go r g ok gk rfl e1 q
theorem on_fam {k : Rm → List Rg → Ex} (h1 : a.plain = true) (h2 : b.plain = true) (q : outE Q E (onFam x a b k)) (go : ∀ r gs, GivenF r gs → a = r.enc → b = .list (gs.map Rg.enc) → outE Q E (k r gs) → Q1 .none) : sp_check_family x [a, b] Q1 E := by
  unfold onFam at q
  cases hr : isRoomF a with
  | false => rw [if_neg (by simp [hr])] at q; exact fam_bad1 h1 h2 hr q
  | true =>
    rw [if_pos hr] at q
    cases hf : isFamF b (topOf a) with
    | false => rw [if_neg (by simp [hf])] at q; exact fam_bad2 h1 h2 hr hf q
    | true =>
      rw [if_pos hf] at q
      refine fam_ok h1 h2 hr hf ?_
      obtain ⟨r, ok, rfl⟩ := isRoomF_top hr
      obtain ⟨gs, e1, l1, l8, gk, e⟩ := fam_is hf
      rw [e] at q
      exact go r gs ⟨ok, l1, l8, gk⟩ rfl e1 q
theorem on_row {k : List Int → Ex} (h : a.plain = true) (q : outE Q E (onRow x a k)) (go : ∀ ws, ws.length ≤ 60 → (∀ w ∈ ws, 1 ≤ w ∧ w ≤ 3) → a = encIs ws → outE Q E (k ws) → Q1 .none) : sp_check_row x [a] Q1 E := by
  unfold onRow at q
  cases hr : isRowF a with
  | false => rw [if_neg (by simp [hr])] at q; exact row_bad h hr q
  | true =>
    rw [if_pos hr] at q
    refine row_ok h hr ?_
    obtain ⟨ws, e1, hl, e2, hb⟩ := isRowF_is hr
    rw [e2] at q
    exact go ws hl hb e1 q
theorem on_sight {k : Int → Ex} (h : a.plain = true) (q : outE Q E (onNum x a 0 1 k)) (go : ∀ i, 0 ≤ i → i ≤ 1 → a = .int i → outE Q E (k i) → Q1 .none) : sp_check_sight x [a] Q1 E := by
  unfold onNum at q
  refine in_check_sight h ?_
  cases hr : isIntF a 0 1 with
  | false => rw [if_neg (by simp [hr])] at q; exact q
  | true =>
    rw [if_pos hr] at q
    obtain ⟨i, rfl, i0, i1⟩ := isIntF_int hr
    exact go i i0 i1 rfl q
theorem on_num {k : Int → Ex} {lo hi : Int} (h : a.plain = true) (q : outE Q E (onNum x a lo hi k)) (go : ∀ i, lo ≤ i → i ≤ hi → a = .int i → outE Q E (k i) → Q1 .none) : sp_check_number x [a, .int lo, .int hi] Q1 E := by
  unfold onNum at q
  refine ⟨(a, lo, hi), rfl, h, ?_⟩
  show match exB x.badNumber (isIntF a lo hi) with
    | .ok d => Q1 d
    | .error c => E c
  unfold exB
  cases hr : isIntF a lo hi with
  | false => rw [if_neg (by simp [hr])] at q ⊢; exact q
  | true =>
    rw [if_pos hr] at q
    obtain ⟨i, rfl, i0, i1⟩ := isIntF_int hr
    exact go i i0 i1 rfl q
theorem on_rec {k : Rec → Ex} (q : outE Q E (onRec x a k)) : (isRecF a = false ∧ E x.badMarks) ∨ (isRecF a = true ∧ ∃ c, Rec.Ok c ∧ a = encRec c ∧ outE Q E (k c)) := by
  unfold onRec at q
  cases hr : isRecF a with
  | false => rw [if_neg (by simp [hr])] at q; exact .inl ⟨rfl, q⟩
  | true =>
    rw [if_pos hr] at q
    obtain ⟨c, ok, e1, e2⟩ := isRecF_is hr
    rw [e2] at q
    exact .inr ⟨rfl, c, ok, e1, q⟩
theorem rg_at {r : Rm} {g : Rg} (ok : r.Ok) (gk : g.Ok r.top) {k : Rm → Rg → Ex} : onRg x r.enc g.enc k = k r g := by
  unfold onRg
  have e1 : isForF g.enc (topOf r.enc) = true := (rg_enc gk).1
  rw [if_pos (room_enc ok), if_pos e1, (rg_enc gk).2]
  rfl
theorem fam_at {r : Rm} {gs : List Rg} (G : GivenF r gs) {k : Rm → List Rg → Ex} : onFam x r.enc (.list (gs.map Rg.enc)) k = k r gs := by
  unfold onFam
  have e1 : isFamF (.list (gs.map Rg.enc)) (topOf r.enc) = true := (fam_enc G.l1 G.l8 G.gk).1
  rw [if_pos (room_enc G.ok), if_pos e1, (fam_enc G.l1 G.l8 G.gk).2]
  rfl
theorem row_at {ws : List Int} (hl : ws.length ≤ 60) (hb : ∀ w ∈ ws, 1 ≤ w ∧ w ≤ 3) {k : List Int → Ex} : onRow x (encIs ws) k = k ws := by
  unfold onRow
  rw [if_pos (row_enc hl hb).1, (row_enc hl hb).2]
theorem rec_at {c : Rec} (h : c.Ok) {k : Rec → Ex} : onRec x (encRec c) k = k c := by
  unfold onRec
  rw [if_pos (rec_enc h).1, (rec_enc h).2]
theorem num_at {i lo hi : Int} (h1 : lo ≤ i) (h2 : i ≤ hi) {k : Int → Ex} : onNum x (.int i) lo hi k = k i := by
  unfold onNum
  have : isIntF (.int i) lo hi = true := by
    show (decide (lo ≤ i) && decide (i ≤ hi)) = true
    rw [decide_eq_true h1, decide_eq_true h2]
    rfl
  rw [if_pos this]
  rfl
end
/-! ### what a refused call tells -/
def errNm (x : Xc) (c : Addr) : Str := if c = x.badRoom then "room" else if c = x.badRegulator then "regulator" else if c = x.badWeather then "weather" else if c = x.badMarks then "marks" else if c = x.badNumber then "number" else if c = x.badText then "text" else "none"
def told (x : Xc) : Ex → D
  | .ok d => d
  | .error c => .str (errNm x c)
def sp__law_error (x : Xc) : SpD := spOf (fun c : Addr => [.exc c]) (fun c => x.has c) (fun c => .str (errNm x c))
theorem mo__law_error (x : Xc) : MonoSp 1 (sp__law_error x) := mo_spOf fun _ => rfl
/-- only these are raised -/
def Raises (x : Xc) : Ex → Prop
  | .ok _ => True
  | .error c => x.has c
section
variable {x : Xc}
theorem has_room : x.has x.badRoom := by simp [Xc.has, Xc.all]
theorem has_regulator : x.has x.badRegulator := by simp [Xc.has, Xc.all]
theorem has_weather : x.has x.badWeather := by simp [Xc.has, Xc.all]
theorem has_marks : x.has x.badMarks := by simp [Xc.has, Xc.all]
theorem has_number : x.has x.badNumber := by simp [Xc.has, Xc.all]
theorem has_text : x.has x.badText := by simp [Xc.has, Xc.all]
theorem has_none : x.has x.notFound := by simp [Xc.has, Xc.all]
theorem raises_rg {a b : D} {k : Rm → Rg → Ex} (h : ∀ r g, r.Ok → g.Ok r.top → a = r.enc → b = g.enc → Raises x (k r g)) : Raises x (onRg x a b k) := by
  unfold onRg
  cases hr : isRoomF a with
  | false => exact has_room
  | true =>
    rw [if_pos rfl]
    cases hf : isForF b (topOf a) with
    | false => exact has_regulator
    | true =>
      rw [if_pos rfl]
      obtain ⟨r, ok, rfl⟩ := isRoomF_top hr
      obtain ⟨g, gk, e1, e2⟩ := isForF_rg hf
      rw [e2]
      exact h r g ok gk rfl e1
theorem raises_fam {a b : D} {k : Rm → List Rg → Ex} (h : ∀ r gs, GivenF r gs → a = r.enc → b = .list (gs.map Rg.enc) → Raises x (k r gs)) : Raises x (onFam x a b k) := by
  unfold onFam
  cases hr : isRoomF a with
  | false => exact has_room
  | true =>
    rw [if_pos rfl]
    cases hf : isFamF b (topOf a) with
    | false => exact has_regulator
    | true =>
      rw [if_pos rfl]
      obtain ⟨r, ok, rfl⟩ := isRoomF_top hr
      obtain ⟨gs, e1, l1, l8, gk, e⟩ := fam_is hf
      rw [e]
      exact h r gs ⟨ok, l1, l8, gk⟩ rfl e1
theorem raises_row {a : D} {k : List Int → Ex} (h : ∀ ws, ws.length ≤ 60 → (∀ w ∈ ws, 1 ≤ w ∧ w ≤ 3) → a = encIs ws → Raises x (k ws)) : Raises x (onRow x a k) := by
  unfold onRow
  cases hr : isRowF a with
  | false => exact has_weather
  | true =>
    obtain ⟨ws, e1, hl, e2, hb⟩ := isRowF_is hr
    rw [if_pos rfl, e2]
    exact h ws hl hb e1
theorem raises_rec {a : D} {k : Rec → Ex} (h : ∀ c, Rec.Ok c → a = encRec c → Raises x (k c)) : Raises x (onRec x a k) := by
  unfold onRec
  cases hr : isRecF a with
  | false => exact has_marks
  | true =>
    obtain ⟨c, ok, e1, e2⟩ := isRecF_is hr
    rw [if_pos rfl, e2]
    exact h c ok e1
theorem raises_num {a : D} {lo hi : Int} {k : Int → Ex} (h : ∀ i, lo ≤ i → i ≤ hi → a = .int i → Raises x (k i)) : Raises x (onNum x a lo hi k) := by
  unfold onNum
  cases hr : isIntF a lo hi with
  | false => exact has_number
  | true =>
    obtain ⟨i, rfl, i0, i1⟩ := isIntF_int hr
    exact h i i0 i1 rfl
end
theorem err_count (b : Bool) : b = b := rfl
theorem sem__law_error (x : Xc) (nd : x.all.Nodup) : ∀ ds Q E, sp__law_error x ds Q E → t__law_error x (endD Q E) (startD 2 ds) := by
  rintro _ Q E ⟨c, rfl, hc, q⟩
  replace q : Q (.str (errNm x c)) := q
  unfold t__law_error
  have hF : ∀ k, x.isF k c = some (decide (c = k)) := fun k => if_pos hc
  have hY : x.yesF c = some true := if_pos hc
  have ex : ∀ {f : Addr → Option Bool} {b : Bool} {P : D → Prop}, f c = some b → P (.bool b) → ∃ c' b', D.exc c = .exc c' ∧ f c' = some b' ∧ P (.bool b') := fun h p => ⟨c, _, rfl, h, p⟩
  unfold sApp wIsX
  walk_at "ds"
  refine ⟨c, _, rfl, hF _, c, _, rfl, hF _, c, _, rfl, hF _, ?_⟩
  refine ⟨c, _, rfl, hF _, c, _, rfl, hF _, c, _, rfl, hF _, by decide, ?_⟩
  refine ⟨c, _, rfl, hF _, by decide, ?_⟩
  refine ⟨[decide (c = x.badRoom), decide (c = x.badRegulator), decide (c = x.badWeather), decide (c = x.badMarks), decide (c = x.badNumber), decide (c = x.badText), decide (c = x.notFound)], rfl, rfl, ?_⟩
  let G : List Bool → Prop := fun bs => if (!decide (((bs.count true : Nat) : Int) = 1)) = true then Q (.str "odd") else ∃ c_1 b, D.exc c = .exc c_1 ∧ x.yesF c_1 = some b ∧ if (!b) = true then Q (.str "odd") else ∃ c_1 b, D.exc c = .exc c_1 ∧ x.yesF c_1 = some b ∧ if (!b) = true then Q (.str "odd") else gIndex (bs.map D.bool) [.bool true] fun y => fIx (.list [.str "room", .str "regulator", .str "weather", .str "marks", .str "number", .str "text", .str "none"]) y Q
  have fin : ∀ (bs lits : List Bool) (j : Nat), bs = lits → lits[j]? = some true → (∀ m, m < j → lits[m]? = some false) → lits.length = 7 → lits.count true = 1 → Q (.str ((["room", "regulator", "weather", "marks", "number", "text", "none"] : List Str)[j]?.getD "")) → G bs := fun bs' bs j eb h1 h2 h7 h3 h4 => by
    rw [eb]
    show ite _ _ _
    rw [h3]
    refine ite_f rfl ⟨c, true, rfl, hY, ite_f rfl ⟨c, true, rfl, hY, ite_f rfl ?_⟩⟩
    refine ⟨⟨sh_bool _, sh_64 (sh_list (sh_map (sh_bool' 0) bs))⟩, j, .bool true, by rw [List.getElem?_map, h1]; rfl, rfl, fun m z' hm hz => ?_, ?_⟩
    · rw [List.getElem?_map, h2 m hm] at hz
      cases hz
      rfl
    · show fIx _ _ _
      rw [fIx_l]
      have hj : j < 7 := by
        have := (List.getElem?_eq_some_iff.mp h1).1
        omega
      match j, hj, h4 with
      | 0, _, h4 => exact ⟨_, rfl, h4⟩
      | 1, _, h4 => exact ⟨_, rfl, h4⟩
      | 2, _, h4 => exact ⟨_, rfl, h4⟩
      | 3, _, h4 => exact ⟨_, rfl, h4⟩
      | 4, _, h4 => exact ⟨_, rfl, h4⟩
      | 5, _, h4 => exact ⟨_, rfl, h4⟩
      | 6, _, h4 => exact ⟨_, rfl, h4⟩
      | j + 7, h, _ => exact absurd h (by omega)
  show fNe _ _ _
  rw [fNe_i]
  show G [decide (c = x.badRoom), decide (c = x.badRegulator), decide (c = x.badWeather), decide (c = x.badMarks), decide (c = x.badNumber), decide (c = x.badText), decide (c = x.notFound)]
  clear_value G
  simp only [Xc.all, List.nodup_cons, List.mem_cons, List.mem_nil_iff, or_false, not_or, List.not_mem_nil, not_false_eq_true, List.nodup_nil, and_true] at nd
  obtain ⟨⟨a1, a2, a3, a4, a5, a6⟩, ⟨b1, b2, b3, b4, b5⟩, ⟨c1, c2, c3, c4⟩, ⟨d1, d2, d3⟩, ⟨e1, e2⟩, f1⟩ := nd
  have a1' := Ne.symm a1; have a2' := Ne.symm a2; have a3' := Ne.symm a3; have a4' := Ne.symm a4; have a5' := Ne.symm a5; have a6' := Ne.symm a6
  have b1' := Ne.symm b1; have b2' := Ne.symm b2; have b3' := Ne.symm b3; have b4' := Ne.symm b4; have b5' := Ne.symm b5
  have c1' := Ne.symm c1; have c2' := Ne.symm c2; have c3' := Ne.symm c3; have c4' := Ne.symm c4
  have d1' := Ne.symm d1; have d2' := Ne.symm d2; have d3' := Ne.symm d3
  have e1' := Ne.symm e1; have e2' := Ne.symm e2; have f1' := Ne.symm f1
  unfold errNm at q
  simp only [Xc.has, Xc.all, List.mem_cons, List.mem_nil_iff, or_false, List.not_mem_nil] at hc
  have nn : ∀ {k : Addr} {l : Addr}, ¬ k = l → decide (k = l) = false := fun h => decide_eq_false h
  rcases hc with rfl | rfl | rfl | rfl | rfl | rfl | rfl
  · exact fin _ [true, false, false, false, false, false, false] 0 (by simp [*]) rfl (by decide) rfl rfl (by simpa [*] using q)
  · exact fin _ [false, true, false, false, false, false, false] 1 (by simp [*]) rfl (by decide) rfl rfl (by simpa [*] using q)
  · exact fin _ [false, false, true, false, false, false, false] 2 (by simp [*]) rfl (by decide) rfl rfl (by simpa [*] using q)
  · exact fin _ [false, false, false, true, false, false, false] 3 (by simp [*]) rfl (by decide) rfl rfl (by simpa [*] using q)
  · exact fin _ [false, false, false, false, true, false, false] 4 (by simp [*]) rfl (by decide) rfl rfl (by simpa [*] using q)
  · exact fin _ [false, false, false, false, false, true, false] 5 (by simp [*]) rfl (by decide) rfl rfl (by simpa [*] using q)
  · exact fin _ [false, false, false, false, false, false, true] 6 (by simp [*]) rfl (by decide) rfl rfl (by simpa [*] using q)
end HC
/-! HY3: best_weather. -/
namespace HC
open PySem PySem.Spec PyProof.Rows L2
local macro_rules | `(tactic| walk_at "ds") => `(tactic| try simp only [endD, startD, startT, endLaw, startLaw, List.map_cons, List.map_nil, List.length_cons, List.length_nil, List.replicate, List.cons_append, List.nil_append, Nat.reduceSub, Nat.reduceAdd, sSeq, sRet, sIf, sNil, sAsg, sUnp, sExpr, sPar2, sPar3, xCons, xNil, xVal, xOwn, bTest, bNot, bAnd, bOr, wVar, wPeek, slot, wC, wOp2, wB, wM, wCons, wNil, wTup, wLst, wIf, wAnd, wOr, wNot, wNeg, wCall, wCallT, wSl, wPart, wNoPart, List.set, ex1, gT_t, gT_st, gT_pr, gC_c, gN_c, gNil_c, sRaise, wChain, sFrz, frz, wIsi, wTabIn, wTabAt, sAug, wipeD, En.lp, loopW_nil, d_WEATHERS, ds_WEATHERS, wDisp1, wNewT, wComp, iSeq, iRange, gList_l, sFor, Bool.false_eq_true, if_false, if_true,
  fAdd_i, fAdd_s, fAdd_l, fAdd_t, fAddL_l, fSub_i, fLt_i, fLe_i, fGt_i, fGe_i, fEq_i, fNe_i, fIs_b, fIsN_b, fIs_nn, fIs_in, fIs_ln, fIs_tn, fIsN_nn, fIsN_in, fIsN_ln, fIsN_tn, gMin_2, gMax_2, gLen_l, gLen_t, fIx_rm0, fIx_rm1, fIx_rm2, fIx_st0, fIx_st1, fIx_st2, fIx_rg0, fIx_rg1, fIx_rg2, fSl_rg, fEq_gap, fEq_stay, fEq_late, fEq_look, fEq_lean])
def swAt (r : Rm) (g : Rg) (ws : List Int) (w : Int) : Int := (tick r g (lastSt r (along r g ws)) w).2.1
def cntMax (l : List Int) : Int := max (l.count 0 : Nat) (l.count 1 : Nat)
def bestOf (s : Int → Int) : Int := if s 1 ≤ s 2 ∧ s 1 ≤ s 3 then 1 else if s 2 ≤ s 3 then 2 else 3
def leftL (r : Rm) (gs : List Rg) (c : Rec) : List Rg := gs.filter fun g => (barOf r g c).isNone
def bestEx (x : Xc) (r : Rm) (gs : List Rg) (c : Rec) : Ex := if leftL r gs c = [] then .error x.notFound else .ok (.int (bestOf fun w => cntMax ((leftL r gs c).map fun g => swAt r g c.1 w)))
def sp_best_weather (x : Xc) : SpD := spEx (fun a : D × D × D => [a.1, a.2.1, a.2.2]) pl3 (fun a => onFam x a.1 a.2.1 fun r gs => onRec x a.2.2 fun c => bestEx x r gs c)
theorem mo_best_weather (x : Xc) : MonoSp 3 (sp_best_weather x) := mo_spEx fun _ => rfl
/-! ### the greatest group -/
theorem range_count : ∀ (l : List Int) (v : Int), ((List.range l.length).filter fun j => decide (l[j]? = some v)).length = l.count v
  | [], v => rfl
  | a :: l, v => by
    rw [List.length_cons, List.range_succ_eq_map, List.filter_cons, List.filter_map, List.count_cons, ← range_count l v]
    have e : ((List.range l.length).filter ((fun j => decide ((a :: l)[j]? = some v)) ∘ Nat.succ)) = (List.range l.length).filter fun j => decide (l[j]? = some v) := List.filter_congr fun j _ => by simp
    rw [e]
    by_cases h : a = v
    · simp [h]
    · simp [h]
theorem enc_int' : Enc D.int := enc_int
theorem grp_len {l : List Int} {G : List Nat} (h : G ∈ grpD (l.map D.int)) : ∃ v ∈ l, G.length = l.count v := by
  unfold grpD at h
  obtain ⟨i, hi, rfl⟩ := List.mem_map.mp h
  have hi' := List.mem_range.mp (List.mem_filter.mp hi).1
  rw [List.length_map] at hi' ⊢
  refine ⟨l[i], List.getElem_mem hi', ?_⟩
  rw [← range_count]
  refine congrArg _ (List.filter_congr fun j hj => ?_)
  rw [eqAt_enc enc_int (List.mem_range.mp hj) hi', List.getElem?_eq_getElem hi']
theorem grp_has {l : List Int} {v : Int} (h : v ∈ l) : ∃ G ∈ grpD (l.map D.int), G.length = l.count v := by
  obtain ⟨k, hk, e⟩ := List.mem_iff_getElem.mp h
  obtain ⟨rest, hr⟩ := grp_of enc_int l hk
  refine ⟨_, (List.mem_filter.mp (by rw [hr]; exact List.mem_cons_self)).1, ?_⟩
  rw [← range_count, List.getElem?_eq_getElem hk, e]
theorem max_grp {l : List Int} {m : Int} (h01 : ∀ v ∈ l, v = 0 ∨ v = 1) (h : IsMax m ((grpD (l.map D.int)).map fun G => (G.length : Int))) : m = cntMax l := by
  obtain ⟨h1, h2⟩ := h
  have hv : ∀ v : Int, (l.count v : Int) ≤ m := fun v => by
    by_cases hm : v ∈ l
    · obtain ⟨G, hG, e⟩ := grp_has hm
      have := h2 _ (List.mem_map.mpr ⟨G, hG, rfl⟩)
      omega
    · rw [List.count_eq_zero_of_not_mem hm]
      obtain ⟨G, _, rfl⟩ := List.mem_map.mp h1
      omega
  obtain ⟨G, hG, rfl⟩ := List.mem_map.mp h1
  obtain ⟨v, hv', e⟩ := grp_len hG
  have a := hv 0
  have b := hv 1
  unfold cntMax
  rcases h01 v hv' with rfl | rfl <;> omega
theorem grp_pos {ds : List D} (h : ds ≠ []) : 0 < (grpD ds).length := by
  unfold grpD
  rw [List.length_map]
  cases ds with
  | nil => exact absurd rfl h
  | cons d ds =>
    have : 0 ∈ (List.range (d :: ds).length).filter (firstD (d :: ds)) := List.mem_filter.mpr ⟨List.mem_range.mpr (by simp), rfl⟩
    exact List.length_pos_of_mem this
theorem idx_best {s : Int → Int} {m : Int} {P : D → Prop} (h : IsMin m [s 1, s 2, s 3]) (q : ∀ j : Nat, j < 3 → (j : Int) + 1 = bestOf s → P (.int j)) : gIndex [.int (s 1), .int (s 2), .int (s 3)] [.int m] P := by
  obtain ⟨h1, h2⟩ := h
  have e1 := h2 (s 1) (by simp)
  have e2 := h2 (s 2) (by simp)
  have e3 := h2 (s 3) (by simp)
  have sh : (D.list [.int (s 1), .int (s 2), .int (s 3)]).sh 64 := sh_64 (sh_list (n := 0) fun d hd => by
    simp only [List.mem_cons, List.mem_nil_iff, or_false, List.not_mem_nil] at hd
    rcases hd with rfl | rfl | rfl <;> exact sh_int' 0 _)
  have fin : ∀ (j : Nat) (z : Int), [s 1, s 2, s 3][j]? = some z → z = m → (∀ k < j, ∀ y, [s 1, s 2, s 3][k]? = some y → y ≠ m) → (j : Int) + 1 = bestOf s → gIndex [.int (s 1), .int (s 2), .int (s 3)] [.int m] P := fun j z a b c d => by
    have hj : j < 3 := (List.getElem?_eq_some_iff.mp a).1
    have em : ∀ k : Nat, ([D.int (s 1), .int (s 2), .int (s 3)])[k]? = ([s 1, s 2, s 3][k]?).map D.int := fun k => by rw [← List.getElem?_map]; rfl
    refine ⟨⟨sh_int _, sh⟩, j, .int z, by rw [em, a]; rfl, by rw [deq_int, b]; simp, fun k z' hk hz => ?_, q j hj d⟩
    rw [em] at hz
    obtain ⟨y, hy, rfl⟩ := Option.map_eq_some_iff.mp hz
    rw [deq_int]
    exact decide_eq_false (c k hk y hy)
  unfold bestOf at fin
  simp only [List.mem_cons, List.mem_nil_iff, or_false, List.not_mem_nil] at h1
  by_cases a : s 1 = m
  · exact fin 0 (s 1) rfl a (fun k hk => absurd hk (Nat.not_lt_zero _)) (by rw [if_pos ⟨by omega, by omega⟩]; rfl)
  · by_cases b : s 2 = m
    · refine fin 1 (s 2) rfl b (fun k hk y hy => ?_) (by rw [if_neg (by omega), if_pos (by omega)]; rfl)
      match k, hk with
      | 0, _ => cases hy; exact a
    · have c : s 3 = m := by omega
      refine fin 2 (s 3) rfl c (fun k hk y hy => ?_) (by rw [if_neg (by omega), if_neg (by omega)]; rfl)
      match k, hk with
      | 0, _ => cases hy; exact a
      | 1, _ => cases hy; exact b
theorem swAt_01 {r : Rm} {g : Rg} (ok : r.Ok) (gk : g.Ok r.top) (ws : List Int) (w : Int) : swAt r g ws w = 0 ∨ swAt r g ws w = 1 := by
  have h : StOk r g (lastSt r (along r g ws)) := by
    unfold lastSt
    cases e : (along r g ws).getLast? with
    | none => exact first_ok ok gk
    | some s => exact along_ok ok gk ws s (List.mem_of_getLast? e)
  exact (tick_ok (w := w) ok gk h).sw
theorem last_some (r : Rm) (g : Rg) (ws : List Int) : (along r g ws).getLast? = some (lastSt r (along r g ws)) := by
  unfold lastSt
  cases e : (along r g ws).getLast? with
  | none =>
    rw [List.getLast?_eq_none_iff] at e
    have := along_length r g (first r) ws
    unfold along at e
    rw [e] at this
    simp at this
  | some s => rfl
def encSpot (p : Rg × Sta) : D := .tuple [p.1.enc, encSt p.2]
def bwBody : TSD := sSeq (sAsg 7 (xVal (wComp [8, 9] (iSeq (wVar 4)) (gT (gCons' (gN 8) (gCons' (gN 9) gNil'))) bYes (wOp2 fIx (wCall sp_step (wCons (wVar 0) (wCons (wVar 8) (wCons (wVar 9) (wCons (wVar 6) wNil))))) (wC (.int 1))))))
    (sApp 5 (wB gMax (wCons (wComp [10] (iSeq (wCall sp_groups_by (wCons (wVar 7) wNil))) (gN 10) bYes (wB gLen (wCons (wPeek 10) wNil))) wNil)))
def bwEnv (r : Rm) (s1 s2 s3 : Sl) (ps : List (Rg × Sta)) (zs : List Int) (s6 s7 : Sl) : Env := [.val r.enc, s1, s2, s3, .val (.list (ps.map encSpot)), .own (.list (zs.map D.int)), s6, s7, .un, .un, .un]
theorem bw_step {r : Rm} {s1 s2 s3 s7 : Sl} {ps : List (Rg × Sta)} {zs : List Int} {w : Int} {e : En} (hp : ps ≠ []) (hl : ps.length ≤ 100) (hz : zs.length ≤ 100) (h01 : ∀ p ∈ ps, (tick r p.1 p.2 w).2.1 = 0 ∨ (tick r p.1 p.2 w).2.1 = 1)
    (q : ∀ s7, e.nx (bwEnv r s1 s2 s3 ps (zs ++ [cntMax (ps.map fun p => (tick r p.1 p.2 w).2.1)]) (.val (.int w)) s7)) : bwBody e (bwEnv r s1 s2 s3 ps zs (.val (.int w)) s7) := by
  unfold bwBody bwEnv
  walk_at "ds"
  refine ⟨le1000 (by rw [List.length_map]; omega), ?_⟩
  refine comp_enc encSpot (fun p => .int (tick r p.1 p.2 w).2.1) _ (fun p hp => ⟨_, rfl, fun Q' q' => ?_⟩) ?_
  · walk_at "ds"
    refine in_step (E := E0') ?_
    rw [fIx_st1]
    exact q'
  unfold sApp
  walk_at "ds"
  have e1 : ps.map (fun p => D.int (tick r p.1 p.2 w).2.1) = (ps.map fun p => (tick r p.1 p.2 w).2.1).map D.int := by rw [List.map_map]; rfl
  rw [e1]
  have l2 : (ps.map fun p => (tick r p.1 p.2 w).2.1).length ≤ 100 := by rw [List.length_map]; exact hl
  have n2 : (ps.map fun p => (tick r p.1 p.2 w).2.1) ≠ [] := by simpa using hp
  have v2 : ∀ v ∈ (ps.map fun p => (tick r p.1 p.2 w).2.1), v = 0 ∨ v = 1 := fun v hv => by
    obtain ⟨p, hp, rfl⟩ := List.mem_map.mp hv
    exact h01 p hp
  generalize (ps.map fun p => (tick r p.1 p.2 w).2.1) = l at q l2 n2 v2
  refine in_groups_by (by rw [List.length_map]; omega) (fun d hd => sh_map (sh_int' 60) l d hd) ?_
  have gl : (grpD (l.map D.int)).length ≤ 100 := by
    unfold grpD
    rw [List.length_map]
    refine Nat.le_trans (List.length_filter_le _ _) ?_
    rw [List.length_range, List.length_map]
    exact l2
  rw [encGrps]
  refine ⟨le1000 (by rw [List.length_map]; omega), ?_⟩
  refine comp_enc encNs (fun G => .int (G.length : Int)) _ (fun G hG => ⟨_, rfl, fun Q' q' => ?_⟩) ?_
  · walk_at "ds"
    rw [encNs, gLen_l, List.length_map]
    exact q'
  refine ⟨(grpD (l.map D.int)).map fun G => (G.length : Int), ?_, ?_, fun m hm => ?_⟩
  · rw [← ints_map, List.map_map]
    rfl
  · rw [List.length_map]
    exact grp_pos (by simpa using n2)
  · rw [max_grp v2 hm]
    refine ⟨by rw [List.length_map]; exact small1000 (by omega), ?_⟩
    have := q (.val (.list (l.map D.int)))
    unfold bwEnv at this
    rw [List.map_append] at this
    exact this
theorem sem_best_weather (x : Xc) : ∀ ds Q E, sp_best_weather x ds Q E → t_best_weather x (endD Q E) (startD 11 ds) := by
  rintro _ Q E ⟨⟨a, b, c⟩, rfl, ⟨h1, h2, h3⟩, q⟩
  replace q : outE Q E (onFam x a b fun r gs => onRec x c fun c => bestEx x r gs c) := q
  unfold t_best_weather
  walk_at "ds"
  refine on_fam h1 h2 q fun r gs G ea eb q1 => ?_
  clear q
  subst ea eb
  obtain ⟨ok, l1, l8, gk⟩ := G
  refine in_is_record h3 ?_
  rcases on_rec q1 with ⟨e, q⟩ | ⟨e, c, ck, rfl, q⟩
  · rw [e]
    exact q
  · rw [e]
    walk_at "ds"
    simp only [Bool.not_true, Bool.false_eq_true, if_false]
    obtain ⟨l60, hw, he, ht⟩ := ck
    refine ⟨le1000 (by rw [List.length_map]; omega), ?_⟩
    refine comp_filt Rg.enc Rg.enc (fun g => (barOf r g c).isNone) _ (fun g hg => ⟨_, rfl, fun Q' q' => ?_, fun _ Q' q' => q'⟩) ?_
    · walk_at "ds"
      refine in_bar_of (by omega) ?_
      cases hb : barOf r g c with
      | none => rw [hb] at q'; exact q'
      | some k => rw [hb] at q'; exact q'
    show fEq _ _ _
    have eL : gs.filter (fun g => (barOf r g c).isNone) = leftL r gs c := rfl
    have gk' : ∀ g ∈ leftL r gs c, g.Ok r.top := fun g hg => gk g (List.mem_filter.mp hg).1
    have ll : (leftL r gs c).length ≤ 8 := Nat.le_trans (List.length_filter_le _ _) l8
    rw [eL]
    unfold bestEx at q
    generalize leftL r gs c = left at q gk' ll
    refine fEq_any (sh_64 (sh_list (sh_map sh_rg left))) (sh_64 (sh_list (n := 0) (by simp))) ?_
    cases left with
    | nil => exact q
    | cons g0 lf =>
      rw [if_neg (by simp)] at q
      refine ite_f rfl ⟨le1000 (by rw [List.length_map]; omega), ?_⟩
      generalize hlf : g0 :: lf = left at *
      have hne : left ≠ [] := by rw [← hlf]; simp
      refine comp_enc Rg.enc (fun g => encSpot (g, lastSt r (along r g c.1))) _ (fun g hg => ⟨_, rfl, fun Q' q' => ?_⟩) ?_
      · walk_at "ds"
        refine ⟨encIs c.1, rfl, ?_⟩
        refine in_states_of (by omega) ?_
        refine ⟨encSt (lastSt r (along r g c.1)), ?_, q'⟩
        exact atI_last? (by rw [List.getLast?_map, last_some]; rfl)
      walk_at "ds"
      have e1 : left.map (fun g => encSpot (g, lastSt r (along r g c.1))) = (left.map fun g => (g, lastSt r (along r g c.1))).map encSpot := by rw [List.map_map]; rfl
      rw [e1]
      have hp : (left.map fun g => (g, lastSt r (along r g c.1))) ≠ [] := by simpa using hne
      have hl : (left.map fun g => (g, lastSt r (along r g c.1))).length ≤ 100 := by rw [List.length_map]; omega
      have h01 : ∀ w, ∀ p ∈ (left.map fun g => (g, lastSt r (along r g c.1))), (tick r p.1 p.2 w).2.1 = 0 ∨ (tick r p.1 p.2 w).2.1 = 1 := fun w p hp => by
        obtain ⟨g, hg, rfl⟩ := List.mem_map.mp hp
        exact swAt_01 ok (gk' g hg) c.1 w
      have es : ∀ w, (left.map fun g => (g, lastSt r (along r g c.1))).map (fun p => (tick r p.1 p.2 w).2.1) = left.map fun g => swAt r g c.1 w := fun w => by rw [List.map_map]; rfl
      refine ⟨_, rfl, bw_step (zs := []) hp hl (by simp) (h01 1) fun s7 => ?_⟩
      refine ⟨_, rfl, bw_step hp hl (by simp) (h01 2) fun s7 => ?_⟩
      refine ⟨_, rfl, bw_step hp hl (by simp) (h01 3) fun s7 => ?_⟩
      rw [es, es, es]
      unfold bwEnv
      walk_at "ds"
      refine ⟨[cntMax (left.map fun g => swAt r g c.1 1), cntMax (left.map fun g => swAt r g c.1 2), cntMax (left.map fun g => swAt r g c.1 3)], rfl, by simp, fun m hm => ?_⟩
      refine idx_best (s := fun w => cntMax (left.map fun g => swAt r g c.1 w)) hm fun j hj ej => ?_
      show fIx _ _ _
      rw [fIx_t]
      replace q : Q (.int (bestOf fun w => cntMax (left.map fun g => swAt r g c.1 w))) := q
      rw [← ej] at q
      match j, hj, q with
      | 0, _, q => exact ⟨_, rfl, q⟩
      | 1, _, q => exact ⟨_, rfl, q⟩
      | 2, _, q => exact ⟨_, rfl, q⟩
end HC
/-! HY4: what laws share: loops by an invariant, drawn lists, switches. -/
namespace HC
open PySem PySem.Spec PyProof.Rows L2
/-! small steps, so that nothing large is compared by unfolding -/
theorem seq_i {t u : TSD} {e : En} {r : Env} (h : t { nx := u e, rt := e.rt, bk := e.bk, ct := e.ct, ex := e.ex } r) : sSeq t u e r := h
/-- one statement, whatever comes behind it -/
theorem seq_g {t u : TSD} {e : En} {r : Env} (h : ∀ nx : Env → Prop, (∀ r', u e r' → nx r') → t { nx := nx, rt := e.rt, bk := e.bk, ct := e.ct, ex := e.ex } r) : sSeq t u e r := h (u e) fun _ z => z
theorem nx_i {f : Env → Prop} {rt : D → Prop} {bk ct : Env → Prop} {ex : Env → Addr → Prop} {r : Env} (h : f r) : En.nx { nx := f, rt := rt, bk := bk, ct := ct, ex := ex } r := h
theorem rt_i {f : Env → Prop} {rt : D → Prop} {bk ct : Env → Prop} {ex : Env → Addr → Prop} {d : D} (h : rt d) : En.rt { nx := f, rt := rt, bk := bk, ct := ct, ex := ex } d := h
/-- a loop by an invariant of what is left and the slots -/
theorem loop_gen {α : Type} {g : GD} {body : TSD} {e : En} (enc : α → D) (P : List α → Env → Prop) : ∀ (l : List α) (r : Env), P l r → (∀ r, P [] r → e.nx r) →
    (∀ a l r, P (a :: l) r → ∃ r1, g (enc a) r = some r1 ∧ ((∀ r', P l r' → loopW g body e (l.map enc) r') → body (e.lp (loopW g body e (l.map enc))) r1)) → loopW g body e (l.map enc) r
  | [], r, h, hn, _ => hn r h
  | a :: l, r, h, hn, hs => by
    obtain ⟨r1, e1, z⟩ := hs a l r h
    exact ⟨r1, e1, z fun r' h' => loop_gen enc P l r' h' hn hs⟩
theorem rngD_map (n : Nat) : rngD 0 n = (List.range n).map fun (k : Nat) => D.int (k : Int) := rngD_zero n
/-- a comprehension whose elements are drawn -/
theorem comp_draw {α : Type} {g : GD} {te : TP} {r : Env} (enc : α → D) (P : α → Prop) : ∀ (ds : List D) {Q : List D → Prop}, (∀ d ∈ ds, ∃ r1, g d r = some r1 ∧ ∀ Q' : D → Prop, (∀ a, P a → Q' (enc a)) → te r1 Q' E0') →
    (∀ l : List α, l.length = ds.length → (∀ a ∈ l, P a) → Q (l.map enc)) → compW g bYes te r ds Q
  | [], Q, _, q => q [] rfl (by simp)
  | d :: ds, Q, h, q => by
    obtain ⟨r1, e1, hr⟩ := h d (by simp)
    refine ⟨r1, e1, hr _ fun a pa => ?_⟩
    refine comp_draw enc P ds (Q := fun ys => Q (enc a :: ys)) (fun x hx => h x (List.mem_cons_of_mem _ hx)) fun l hl ha => ?_
    exact q (a :: l) (by simp [hl]) (by
      intro b hb
      rcases List.mem_cons.mp hb with rfl | hb
      · exact pa
      · exact ha b hb)
/-- the first place at which two rows are unlike -/
theorem bar_first : ∀ (as bs : List Int) (n : Nat), as.length = bs.length → ((List.range' n as.length).filter fun k => !decide (as[k - n]? = bs[k - n]?)).head? = barF n as bs
  | [], [], n, _ => rfl
  | a :: as, b :: bs, n, h => by
    rw [List.length_cons, List.range'_succ, barF]
    by_cases e : a = b
    · rw [if_pos e, List.filter_cons_of_neg (by simp [e])]
      rw [← bar_first as bs (n + 1) (by simpa using h)]
      congr 1
      refine List.filter_congr fun k hk => ?_
      have hk' := List.mem_range'_1.mp hk
      have : k - n = (k - (n + 1)) + 1 := by omega
      rw [this]
      simp
    · rw [if_neg e, List.filter_cons_of_pos (by simp [e])]
      rfl
  | [], _ :: _, _, h => by simp at h
  | _ :: _, [], _, h => by simp at h
theorem sws_len (r : Rm) (g : Rg) (ws : List Int) : (sws r g ws).length = ws.length := by
  unfold sws along
  rw [List.length_map, List.length_tail, along_length]
  omega
theorem sws_01 {r : Rm} {g : Rg} (ok : r.Ok) (gk : g.Ok r.top) (ws : List Int) : ∀ t ∈ sws r g ws, 0 ≤ t ∧ t ≤ 1 := by
  intro t ht
  obtain ⟨s, hs, rfl⟩ := List.mem_map.mp ht
  have := (along_ok ok gk ws s (List.mem_of_mem_tail hs)).sw
  omega
theorem sh_optN (o : Option Nat) (n : Nat) : (optN o).sh n := by
  cases o with
  | none => exact sh_none' n
  | some k => exact sh_int' n _
theorem sh_optP (o : Option (Nat × Nat)) : (optP o).sh 1 := by
  cases o with
  | none => exact sh_none' 1
  | some p => exact sh_np p
theorem sh_ns (l : List Nat) : (encNs l).sh 1 := sh_list (sh_map (fun (k : Nat) => sh_int' 0 (k : Int)) l)
theorem sh_grps (l : List (List Nat)) : (encGrps l).sh 2 := sh_list (sh_map sh_ns l)
theorem rem_clean {r : Rm} {gs : List Rg} {g : Rg} {h : Nat} (hg : gs[h]? = some g) (ws : List Int) : remL r gs [(ws, sws r g ws), ([], [])] = (List.range gs.length).filter fun j => decide ((gs.map fun g => sws r g ws)[j]? = (gs.map fun g => sws r g ws)[h]?) := by
  unfold remL
  refine List.filter_congr fun j hj => ?_
  have hj' := List.mem_range.mp hj
  have ej := List.getElem?_eq_getElem hj'
  unfold barsL
  rw [List.getElem?_map, List.getElem?_map, List.getElem?_map, hg, ej]
  generalize gs[j] = g'
  have e0 : barOf r g' ([], []) = none := rfl
  have e1 : fstBar r g' 0 [(ws, sws r g ws), ([], [])] = none ↔ sws r g' ws = sws r g ws := by
    rw [← barF_none (sws r g' ws) (sws r g ws) 0 (by rw [sws_len, sws_len])]
    rw [fstBar, fstBar, e0, fstBar]
    show (match barF 0 (sws r g' ws) (sws r g ws) with | some k => some (0, k) | none => none) = none ↔ _
    cases barF 0 (sws r g' ws) (sws r g ws) <;> simp
  show (fstBar r g' 0 [(ws, sws r g ws), ([], [])] == none) = decide (some (sws r g' ws) = some (sws r g ws))
  by_cases e : sws r g' ws = sws r g ws
  · rw [e1.mpr e, e]
    simp
  · have : ¬ fstBar r g' 0 [(ws, sws r g ws), ([], [])] = none := fun z => e (e1.mp z)
    rw [decide_eq_false (by simpa using e)]
    cases z : fstBar r g' 0 [(ws, sws r g ws), ([], [])] with
    | none => exact absurd z this
    | some p => rfl
/-- one record of the hidden one's own: it remains -/
theorem rem_own {r : Rm} {gs : List Rg} {g : Rg} {h : Nat} (hg : gs[h]? = some g) (ws : List Int) : h ∈ remL r gs [(ws, sws r g ws)] := by
  unfold remL
  have hlt := (List.getElem?_eq_some_iff.mp hg).1
  refine List.mem_filter.mpr ⟨List.mem_range.mpr hlt, ?_⟩
  unfold barsL
  rw [List.getElem?_map, hg]
  have e1 : barOf r g (ws, sws r g ws) = none := (barF_none _ _ 0 rfl).mpr rfl
  show (fstBar r g 0 [(ws, sws r g ws)] == none) = true
  rw [fstBar, e1, fstBar]
  rfl
theorem bar_none {r : Rm} {g : Rg} {ws ts : List Int} (h : ws.length = ts.length) : (barOf r g (ws, ts)).isNone = decide (sws r g ws = ts) := by
  have := barF_none (sws r g ws) ts 0 (by rw [sws_len]; exact h)
  show (barF 0 (sws r g ws) ts).isNone = _
  by_cases e : sws r g ws = ts
  · rw [this.mpr e, decide_eq_true e]; rfl
  · rw [decide_eq_false e]
    cases z : barF 0 (sws r g ws) ts with
    | none => exact absurd (this.mp z) e
    | some k => rfl
theorem runFrom_snoc (r : Rm) (g : Rg) (w : Int) : ∀ (ws : List Int) (s : Sta), runFrom r g s (ws ++ [w]) = runFrom r g s ws ++ [tick r g ((runFrom r g s ws).getLast?.getD s) w]
  | [], s => rfl
  | v :: ws, s => by
    rw [List.cons_append, runFrom, runFrom, runFrom_snoc r g w ws, List.cons_append]
    congr 4
    cases e : runFrom r g (tick r g s v) ws with
    | nil =>
      have := along_length r g (tick r g s v) ws
      rw [e] at this
      simp at this
    | cons a l =>
      rw [List.getLast?_cons_cons]
      rw [List.getLast?_eq_some_getLast (by simp : (a :: l) ≠ [])]
      rfl
theorem along_snoc (r : Rm) (g : Rg) (ws : List Int) (w : Int) : along r g (ws ++ [w]) = along r g ws ++ [tick r g (lastSt r (along r g ws)) w] := runFrom_snoc r g w ws (first r)
theorem along_ne (r : Rm) (g : Rg) (ws : List Int) : along r g ws ≠ [] := fun z => by
  have := along_length r g (first r) ws
  unfold along at z
  rw [z] at this
  simp at this
theorem sws_snoc (r : Rm) (g : Rg) (ws : List Int) (w : Int) : sws r g (ws ++ [w]) = sws r g ws ++ [swAt r g ws w] := by
  unfold sws swAt
  rw [along_snoc, List.tail_append_of_ne_nil (along_ne r g ws), List.map_append]
  rfl
theorem mulOk (n : Nat) (h : n ≤ 1000) : -(2 ^ 63 : Int) ≤ (n : Int) ∧ (n : Int) < 2 ^ 63 ∧ 1 * (n : Int).toNat ≤ sizeLine := by
  have : (2 : Int) ^ 63 = 9223372036854775808 := by decide +kernel
  rw [this]
  refine ⟨by omega, by omega, ?_⟩
  rw [Nat.one_mul, Int.toNat_natCast]
  exact le1000 h
theorem flat_one {α : Type} (d : α) : ∀ n : Nat, (List.replicate n [d]).flatten = List.replicate n d
  | 0 => rfl
  | n + 1 => by rw [List.replicate_succ, List.flatten_cons, flat_one d n]; rfl
/-- [d] * n -/
theorem fMul_rep {d : D} {Q : D → Prop} (n : Nat) (h : n ≤ 1000) (q : Q (.list (List.replicate n d))) : fMul (.list [d]) (.int (n : Int)) Q := by
  rw [fMul_l]
  refine ⟨mulOk n h, ?_⟩
  rw [Int.toNat_natCast, flat_one]
  exact q
/-! ### names of refusals -/
section
variable {x : Xc}
theorem nm_room : errNm x x.badRoom = "room" := if_pos rfl
theorem nms (nd : x.all.Nodup) : errNm x x.badRegulator = "regulator" ∧ errNm x x.badWeather = "weather" ∧ errNm x x.badMarks = "marks" ∧ errNm x x.badNumber = "number" ∧ errNm x x.badText = "text" ∧ errNm x x.notFound = "none" := by
  simp only [Xc.all, List.nodup_cons, List.mem_cons, List.mem_nil_iff, or_false, not_or, List.not_mem_nil, not_false_eq_true, List.nodup_nil, and_true] at nd
  obtain ⟨⟨a1, a2, a3, a4, a5, a6⟩, ⟨b1, b2, b3, b4, b5⟩, ⟨c1, c2, c3, c4⟩, ⟨d1, d2, d3⟩, ⟨e1, e2⟩, f1⟩ := nd
  have a1' := Ne.symm a1; have a2' := Ne.symm a2; have a3' := Ne.symm a3; have a4' := Ne.symm a4; have a5' := Ne.symm a5; have a6' := Ne.symm a6
  have b1' := Ne.symm b1; have b2' := Ne.symm b2; have b3' := Ne.symm b3; have b4' := Ne.symm b4; have b5' := Ne.symm b5
  have c1' := Ne.symm c1; have c2' := Ne.symm c2; have c3' := Ne.symm c3; have c4' := Ne.symm c4
  have d1' := Ne.symm d1; have d2' := Ne.symm d2; have d3' := Ne.symm d3
  have e1' := Ne.symm e1; have e2' := Ne.symm e2; have f1' := Ne.symm f1
  unfold errNm
  refine ⟨?_, ?_, ?_, ?_, ?_, ?_⟩ <;> simp [*]
theorem nm_regulator (nd : x.all.Nodup) : errNm x x.badRegulator = "regulator" := (nms nd).1
theorem nm_weather (nd : x.all.Nodup) : errNm x x.badWeather = "weather" := (nms nd).2.1
theorem nm_marks (nd : x.all.Nodup) : errNm x x.badMarks = "marks" := (nms nd).2.2.1
theorem nm_number (nd : x.all.Nodup) : errNm x x.badNumber = "number" := (nms nd).2.2.2.1
theorem nm_text (nd : x.all.Nodup) : errNm x x.badText = "text" := (nms nd).2.2.2.2.1
theorem nm_none (nd : x.all.Nodup) : errNm x x.notFound = "none" := (nms nd).2.2.2.2.2
theorem told_fam1 {a b : D} {k : Rm → List Rg → Ex} (h : isRoomF a = false) : told x (onFam x a b k) = .str "room" := by
  unfold onFam
  rw [if_neg (by simp [h])]
  show D.str (errNm x x.badRoom) = _
  rw [nm_room]
theorem told_fam2 (nd : x.all.Nodup) {a b : D} {k : Rm → List Rg → Ex} (h : isRoomF a = true) (h2 : isFamF b (topOf a) = false) : told x (onFam x a b k) = .str "regulator" := by
  unfold onFam
  rw [if_pos h, if_neg (by simp [h2])]
  show D.str (errNm x x.badRegulator) = _
  rw [nm_regulator nd]
theorem told_rg1 {a b : D} {k : Rm → Rg → Ex} (h : isRoomF a = false) : told x (onRg x a b k) = .str "room" := by
  unfold onRg
  rw [if_neg (by simp [h])]
  show D.str (errNm x x.badRoom) = _
  rw [nm_room]
theorem told_rg2 (nd : x.all.Nodup) {a b : D} {k : Rm → Rg → Ex} (h : isRoomF a = true) (h2 : isForF b (topOf a) = false) : told x (onRg x a b k) = .str "regulator" := by
  unfold onRg
  rw [if_pos h, if_neg (by simp [h2])]
  show D.str (errNm x x.badRegulator) = _
  rw [nm_regulator nd]
theorem told_row (nd : x.all.Nodup) {a : D} {k : List Int → Ex} (h : isRowF a = false) : told x (onRow x a k) = .str "weather" := by
  unfold onRow
  rw [if_neg (by simp [h])]
  show D.str (errNm x x.badWeather) = _
  rw [nm_weather nd]
theorem told_num (nd : x.all.Nodup) {a : D} {lo hi : Int} {k : Int → Ex} (h : isIntF a lo hi = false) : told x (onNum x a lo hi k) = .str "number" := by
  unfold onNum
  rw [if_neg (by simp [h])]
  show D.str (errNm x x.badNumber) = _
  rw [nm_number nd]
theorem told_rec (nd : x.all.Nodup) {a : D} {k : Rec → Ex} (h : isRecF a = false) : told x (onRec x a k) = .str "marks" := by
  unfold onRec
  rw [if_neg (by simp [h])]
  show D.str (errNm x x.badMarks) = _
  rw [nm_marks nd]
end
end HC
/-! HY5: d.get(k, x), sum(d.values()). -/
namespace HC
open PySem PySem.Spec PyProof.Rows L2
def wGet (to te tf : TP) : TP := fun r Q E => to r (fun x => match x with
  | .tdict kvs => te r (fun y => tf r (fun z => ∃ ks, y = .tuple (keysD ks) ∧ (NestedKey.tup ks).depth ≤ 8 ∧ Q ((kvGet kvs (.tup ks)).getD z)) E) E
  | _ => False) E
section
variable {X : Cx} {C : Ct} {W : XW} {k : Nat} {o e f : Expr} {to te tf : TP} {apos cpos : Pos}
theorem td_at {pins : List (Addr × Obj)} {σ : L2.St} {H : Hp} {s : Shared} {a : Addr} {ob : Obj} {xs : List (NestedKey × Addr × Value)} (I : Inv X pins σ H s) (ea : H a = some (dnO a ob)) (de : DEnt X.prog X.w a ob xs) :
    s.TypeIs (.ref a) "dict" ∧ (∀ b, Value.ref a = .ref b → ∃ o, s.heap.get? b = some o ∧ o.dict = none) := by
  have ho : s.heap.get? a = some ob := (I.hok a _ ea).1
  obtain ⟨_, _, h3, _⟩ := de
  exact ⟨⟨ob, ho, h3.1⟩, fun b q => by cases q; exact ⟨ob, ho, h3.2.1⟩⟩
theorem pe_getN {td ty tx : TE} (hu : X.A.units + 65 < cLine) (ho : PE X o td) (he : PE X e ty) (hf : PE X f tx) (m : M2 X o "get" apos e f cpos) : PE X (.Call (.Attribute o "get" apos) [e, f] [] cpos) (fun σ H Q => td σ H fun x H1 => ∃ a ob xs, x = .ref a ∧ H1 a = some (dnO a ob) ∧ DEnt X.prog X.w a ob xs ∧ ty σ H1 fun y H2 => tx σ H2 fun z H3 => ∃ M kvs b ks ob xs, y = .ref b ∧ H3 a = some (dnO a ob) ∧ DEnt X.prog X.w a ob xs ∧ RpN X.K X.prog X.w M H3 xs kvs ∧ Rp X.K X.prog X.w M H3 (.ref b) (keyD (.tup ks)) ∧ (NestedKey.tup ks).depth ≤ 8 ∧
    ((kvGet kvs (.tup ks) = none → Q z H3) ∧ ∀ d, kvGet kvs (.tup ks) = some d → ∀ v, Rp X.K X.prog X.w M H3 v d → Q v H3)) := by
  refine ⟨fun pins s σ H Q I h => ?_⟩
  refine wpAny_Call_method m.base m.few m.line PySem.F.plainAttrs_dict PySem.F.slot_dict_get PySem.F.type_dict_get (thn (ho.run pins s σ H _ I h) fun u s1 ⟨x, H1, I1, rx, a, ob, xs, ex, ea, de, q1⟩ => ?_)
  subst ex
  obtain rfl : u = Value.ref a := rx
  obtain ⟨t1, t2⟩ := td_at I1 ea de
  refine ⟨t1, t2, ?_⟩
  rw [m.trees]
  refine Calls.callWith_builtin rfl (Calls.evalArgs_plain (Calls.spliced_cons (thn (he.run pins s1 σ H1 _ I1 q1) fun iv s2 ⟨y, H2, I2, ry, q2⟩ =>
    Calls.spliced_cons (thn (hf.run pins s2 σ H2 _ I2 q2) fun fv s3 ⟨z, H3, I3, rz, M, kvs, b, ks, ob, xs, ey, ea3, de, rn, rk, dp, q3⟩ => Calls.spliced_nil ?_))))
  subst ey
  obtain rfl : iv = Value.ref b := ry
  have hk : NestedIs s3.heap (.tup ks) (.ref b) := key_heap I3 (.tup ks) _ _ rk rfl
  have hm := td_heap I3 ea3 de rn
  refine getOr_keyed (knd := nestedKind X.prog X.w) (k := .tup ks) (room8 hu) ⟨hk, dp⟩ de.2.1 ⟨xs, hm, rfl⟩ ?_
  rw [valueAt_pairsH]
  rcases rpn_get (.tup ks) rn with ⟨z1, z2⟩ | ⟨p, v, d', hp, hd, rv, rp⟩
  · rw [z1]
    exact ⟨z, H3, I3.tok _, rz, q3.1 z2⟩
  · rw [hp]
    exact ⟨v, H3, I3.tok _, rv, q3.2 _ hd v rp⟩
theorem dv_get (G : Good X C W k) (ho : DE X C W o to) (he : DE X C W e te) (hf : DV X C W f tf) (m : M2 X o "get" apos e f cpos := by exact ⟨rfl, rfl, rfl, rfl⟩) : DV X C W (.Call (.Attribute o "get" apos) [e, f] [] cpos) (wGet to te tf) := by
  refine ⟨(pe_getN G.hu65 ho.pe he.pe hf.pe m).imp fun σ H Q ⟨M, r, E, S, hW, q⟩ => ⟨M, r, E, S, hW, ho.mo.imp (fun x z v H1 k1 S1 p1 => ?_) (fun _ z => z) q⟩, ⟨fun hq hE q => ho.mo.imp (fun x z => ?_) hE q⟩⟩
  · have F := G.fit
    cases x with
    | tdict kvs =>
      obtain ⟨K0, P0, w0, T0, M0, H0⟩ := C
      obtain ⟨z1, z2, z3⟩ := F
      cases z1; cases z2; cases z3
      obtain ⟨a, ob, xs, rfl, ea, de, rn⟩ := p1.td
      refine ⟨a, ob, xs, rfl, ea, de, M, r, E, S1, hW.mono k1, he.mo.imp (fun y z v2 H2 k2 S2 p2 => ⟨M, r, E, S2, hW.mono (k1.trans k2), hf.mo.imp (fun y2 z v3 H3 k3 S3 p3 => ?_) (fun _ z => z) z⟩) (fun _ z => z) z⟩
      obtain ⟨ks, ey, dp, q⟩ := z
      subst ey
      have p2' := (S2.rq k3 p2)
      obtain ⟨b, zs, rfl, _, _⟩ := p2'.tup
      have p1' := (S1.rq (k2.trans k3) p1)
      obtain ⟨a', ob', xs', e', ea', de', rn'⟩ := p1'.td
      cases e'
      refine ⟨M, kvs, b, ks, ob', xs', rfl, ea', de', rn', p2'.tupRp, dp, fun hn => ?_, fun d hd v rv => ?_⟩
      · rw [hn] at q
        exact q _ H3 (k1.trans (k2.trans k3)) S3 p3
      · rw [hd] at q
        exact q _ H3 (k1.trans (k2.trans k3)) S3 rv
    | _ => exact z.elim
  · cases x with
    | tdict kvs => exact he.mo.imp (fun y z => hf.mo.imp (fun w ⟨ks, a, b, c⟩ => ⟨ks, a, b, hq _ c⟩) hE z) hE z
    | _ => exact z
end
/-! ### sum(d.values()) -/
def vvO (p d : Addr) : HO := .ext fun h => h.IsValuesView p d
section
variable {X : Cx} {C : Ct} {W : XW} {k : Nat} {o : Expr} {to : TP} {apos cpos spos npos : Pos}
theorem meetsN_values {prog : Program} {w : World} (d : Addr) (hd : (d == sysModules) = false) :
    MeetsIn prog w (Builtin.«dict.values» ⟨[.ref d], []⟩) (fun _ R s => s.TypeIs (.ref d) "dict" ∧ R (.ok (.ret (.ref s.heap.objs.size))) { s with heap := s.heap.push { cls := .type "dict_values", data := .fields #[.ref d] } }) :=
  .of_wp fun A R s ⟨hm, h⟩ => by
    refine wpAny_bind ?_
    unfold Builtin.Dict.noArgs
    refine wpAny_bind (wpAny_notOrdered_dict hm ?_)
    show wpAny _ _ (pure d) _ _ s
    refine wpAny_pure ?_
    show wpAny _ _ (Builtin.Dict.showsAll d >>= _) _ _ s
    unfold Builtin.Dict.showsAll
    rw [if_neg (by rw [hd]; exact Bool.false_ne_true)]
    refine wpAny_bind (wpAny_pure ?_)
    exact wpAny_bind (wpAny_newObj_type (wpAny_pure ⟨_, rfl, h⟩))
theorem pe_valuesN {td : TE} (ho : PE X o td) (hbase : attributeBase o "values" X.env (eval o X.env) = eval o X.env := by rfl) (hline : (apos.endLine == cpos.line) = true := by rfl) :
    PE X (.Call (.Attribute o "values" apos) [] [] cpos) (fun σ H Q => td σ H fun x H1 => ∃ a ob xs, x = .ref a ∧ H1 a = some (dnO a ob) ∧ DEnt X.prog X.w a ob xs ∧ ∀ p, H1 p = none → Q (.ref p) (upd H1 p (vvO p a))) := by
  refine ⟨fun pins s σ H Q I h => ?_⟩
  refine wpAny_Call_method0_late hbase hline (thn (ho.run pins s σ H _ I h) fun v s1 ⟨x, H1, I1, r1, a, ob, xs, ex, ea, de, q1⟩ => ?_)
  subst ex
  obtain rfl : v = Value.ref a := r1
  obtain ⟨t1, t2⟩ := td_at I1 ea de
  refine ⟨"dict", "dict.values", PySem.F.plainAttrs_dict, PySem.F.slot_dict_values, PySem.F.type_dict_values, t1, t2, Calls.callWith_builtin rfl (PySem.evalArgs_none ?_)⟩
  refine call_meetsIn PySem.F.slot_dict_values t1 PySem.F.entry_dict_values (PySem.F.args_dict_values_1 _) (meetsN_values a de.2.1) ⟨t1, ?_⟩
  have hk : ∀ b u, s1.heap.get? b = some u → (s1.heap.push { cls := .type "dict_values", data := .fields #[.ref a] }).get? b = some u := fun b u e => Heap.get?_push_of_some _ e
  have hg : (s1.heap.push { cls := .type "dict_values", data := .fields #[.ref a] }).get? s1.heap.objs.size = some { cls := .type "dict_values", data := .fields #[.ref a] } := Heap.get?_push_size _ rfl
  refine ⟨.ref s1.heap.objs.size, _, I1.laid (a := s1.heap.objs.size) (o := vvO s1.heap.objs.size a) (t' := s1.toks) hk (Nat.le_refl _) ⟨⟨_, hg, rfl, rfl⟩, ⟨_, hg⟩, fun h1 h2 ⟨oo, e1, e2, e3⟩ kk => ⟨oo, kk _ e1, e2, e3⟩⟩, rfl, q1 _ I1.fresh⟩
theorem rpn_val {K : PySem.W.Frag} {P : Program} {w : World} {M : Addr → Prop} {H : Hp} : ∀ {xs : List (NestedKey × Addr × Value)} {kvs : List (NestedKey × D)}, RpN K P w M H xs kvs → ∀ {ns : List Int}, dInts (kvs.map (·.2)) = some ns → xs.length = ns.length ∧ ∀ (i : Nat) x, xs[i]? = some x → ∃ t, x.2.2 = .int (ns.getD i 0) t
  | _, _, .nil, ns, h => by
    cases h
    exact ⟨rfl, fun i x e => by simp at e⟩
  | _, _, .cons (d := d) (ds := ds) h1 h2 h3 h4, ns, h => by
    have e := of_ints h
    cases ns with
    | nil => cases e
    | cons n ns =>
      rw [List.map_cons, List.map_cons] at e
      injection e with e1 e2
      have h' : dInts (ds.map (·.2)) = some ns := by rw [e2]; exact ints_map ns
      obtain ⟨l, q⟩ := rpn_val h4 h'
      refine ⟨by rw [List.length_cons, List.length_cons, l], fun i x e => ?_⟩
      cases i with
      | zero =>
        simp at e
        subst e
        have e1 : d = .int n := e1
        subst e1
        cases h3
        exact h2
      | succ i =>
        have := q i x (by simpa using e)
        simpa using this
theorem preSum_get : ∀ (ns : List Int), preSum (fun i => ns.getD i 0) ns.length = ns.sum := fun ns => by
  have h : ∀ (k : Nat), k ≤ ns.length → preSum (fun i => ns.getD i 0) k = (ns.take k).sum := by
    intro k
    induction k with
    | zero => intro _; rfl
    | succ k ih =>
      intro hk
      have hk' : k < ns.length := hk
      show preSum (fun i => ns.getD i 0) k + ns.getD k 0 = _
      rw [ih (by omega), List.take_succ, List.getElem?_eq_getElem hk', List.sum_append]
      simp [List.getD, List.getElem?_eq_getElem hk']
  rw [h _ (Nat.le_refl _), List.take_length]
theorem call_sumV (hc : X.calm = true) : CallR X (.builtin "sum") (fun xs H Q => ∃ p a ob ys M kvs ns, xs = [.ref p] ∧ H p = some (vvO p a) ∧ H a = some (dnO a ob) ∧ DEnt X.prog X.w a ob ys ∧ RpN X.K X.prog X.w M H ys kvs ∧ dInts (kvs.map (·.2)) = some ns ∧ Q (.int ns.sum) H) := by
  intro pins s σ H xs us Q I r ⟨p, a, ob, ys, M, kvs, ns, e, ep, ea, de, rn, hn, q⟩
  subst e
  obtain ⟨u, rfl, ru⟩ := vals1 r
  obtain rfl : u = Value.ref p := ru
  obtain ⟨hl, hv⟩ := rpn_val rn hn
  obtain ⟨h1, h2, h3, es, epp, h4, h5, h6, h7⟩ := de
  have ho : s.heap.get? a = some ob := (I.hok a _ ea).1
  have hp : s.heap.IsValuesView p a := (I.hok p _ ep).1
  have raw : s.heap.DictRaw a es epp := ⟨ob, ho, h3, h4⟩
  have Ks : PySem.W.KdlSrc X.prog X.w "dict_values" p a es.size (fun i v => ∃ hi : i < es.size, v = es[i].val) (fun h => h.IsValuesView p a ∧ h.DictRaw a es epp) := KdlSrc.rawValues
  have hsz : es.size = ns.length := by
    rw [← hl]
    have := congrArg List.length h5
    simpa using this
  refine call_sum_walkAnyS ?_
  obtain ⟨oI, St, hit, Wk, st⟩ := Ks.iter X.A.in1 s (by have := I.ok.hd hc; simpa using this) ⟨hp, raw⟩
  refine hit _ _ ⟨s.heap.objs.size, _, _, _, es.size, _, _, fun i => ns.getD i 0, rfl, Wk.toS, st, fun b hb => ?_, fun i v ⟨hi, ev⟩ => ?_, fun s' t' hm => ?_⟩
  · show b < (s.heap.push oI).objs.size
    rw [size_push']
    rcases List.mem_cons.mp hb with e | hb
    · rw [e]; exact Nat.lt_succ_self _
    · rw [List.mem_singleton.mp hb]; exact Nat.lt_succ_of_lt (Ks.there _ ⟨hp, raw⟩).2
  · have hx : i < ys.length := by omega
    obtain ⟨t, ht⟩ := hv i _ (List.getElem?_eq_getElem hx)
    refine ⟨t, ?_⟩
    rw [ev, ← ht]
    have : es.toList[i]? = (ys.map (entryOfKey (nestedKind X.prog X.w)))[i]? := by rw [h5]
    rw [List.getElem?_map, List.getElem?_eq_getElem hx, Array.getElem?_toList, Array.getElem?_eq_getElem hi] at this
    rw [Option.some.inj this]
    rfl
  · have hk : ∀ b o, s.heap.get? b = some o → s'.heap.get? b = some o := fun b o e =>
      hm.heap b o (fun hI => absurd (Heap.lt_size e) (by rw [List.mem_singleton.mp hI]; exact Nat.lt_irrefl _)) (Heap.get?_push_of_some _ e)
    rw [Moved.eq_with hm, hsz, preSum_get]
    exact ⟨.int ns.sum, H, I.kept hk, ⟨t', rfl⟩, q⟩
def wSumV (to : TP) : TP := fun r Q E => to r (fun x => match x with
  | .tdict kvs => ∃ ns, dInts (kvs.map (·.2)) = some ns ∧ Q (.int ns.sum)
  | _ => False) E
theorem dv_sumV (G : Good X C W k) (ho : DE X C W o to) (m1 : X.mg "sum" = none) (hg : Gl X "sum" := by rfl)
    (hbase : attributeBase o "values" X.env (eval o X.env) = eval o X.env := by rfl) (hline : (apos.endLine == cpos.line) = true := by rfl)
    (he : starEach [.Call (.Attribute o "values" apos) [] [] cpos] X.env = (false, eval (.Call (.Attribute o "values" apos) [] [] cpos) X.env) :: starEach [] X.env := by rfl) (hpl : (backTo spos (starEach [] X.env)).any (·.1) = false := by rfl) :
    DV X C W (.Call (.Name "sum" npos) [.Call (.Attribute o "values" apos) [] [] cpos] [] spos) (wSumV to) := by
  refine ⟨(pe_callB (call_sumV G.calm) hg m1 boot_sum' (pa_cons (pe_valuesN ho.pe hbase hline) pa_nil he) (by decide) (by decide) he hpl).imp fun σ H Q ⟨M, r, E, S, hW, q⟩ => ⟨M, r, E, S, hW, ho.mo.imp (fun x z v H1 k1 S1 p1 => ?_) (fun _ z => z) q⟩,
    ⟨fun hq hE q => ho.mo.imp (fun x z => ?_) hE q⟩⟩
  · have F := G.fit
    cases x with
    | tdict kvs =>
      obtain ⟨K0, P0, w0, T0, M0, H0⟩ := C
      obtain ⟨z1, z2, z3⟩ := F
      cases z1; cases z2; cases z3
      obtain ⟨ns, hn, q⟩ := z
      obtain ⟨a, ob, xs, rfl, ea, de, rn⟩ := p1.td
      refine ⟨a, ob, xs, rfl, ea, de, fun p hp => ?_⟩
      have sm : Same H1 (upd H1 p (vvO p a)) := same_upd hp
      exact ⟨p, a, ob, xs, M, kvs, ns, rfl, upd_same, sm a _ ea, de, rn.step (Stp.grow sm), hn, q _ _ (k1.trans (Same.ex sm)) (S1.same sm) (.int _)⟩
    | _ => exact z.elim
  · cases x with
    | tdict kvs => exact let ⟨ns, a, b⟩ := z; ⟨ns, a, hq _ b⟩
    | _ => exact z
end
end HC
/-! HY6: set(list of ints), sorted(set). -/
namespace HC
open PySem PySem.Spec PyProof.Rows L2
abbrev so0 (w : World) : Obj := { cls := .type "set", dict := none, data := .set #[] 0 (.fresh 0 0 (!w.params.followText "set-order")) }
section
variable {P : Program} {w : World} {A : Around} {E : Value → Shared → Prop} {s : Shared}
theorem set_of_ints {l : Addr} {its : Array Value} (ns : List Int) {Q : Value → Shared → Prop} (hn0 : A.handled = none) (lst : s.heap.IsList l its) (iar : IntsAre its.toList ns) (small : ns.length + 1 < scanBound)
    (fin : ∀ (h1 : Heap) (tk c : Nat), SetR w h1 s.heap.objs.size (fun j => decide (j ∈ ns)) c → (∀ b o, s.heap.get? b = some o → h1.get? b = some o) → Q (.ref s.heap.objs.size) { s with heap := h1, toks := tk }) :
    wpAny (model P w) A (call (.type "set") [.ref l]) Q E s := by
  have len : its.size = ns.length := by have z := IntsAre.length iar; rw [Array.length_toList] at z; exact z
  obtain ⟨cc, tl, hm0⟩ := PySem.F.called_set.mro
  have hm1 := PySem.F.called_set.made; have hm2 := PySem.F.called_set.sub
  refine wpAny_call (codeAny_of_tree (?_ : wpAny _ _ (callAny (.type "set") _) _ _ _))
  refine wpAny_pure ⟨Code.quiet_builtin _ (by decide +kernel), codeAny_builtin PySem.F.entry_type_call ?_⟩
  rw [Around.under_plain (weight_type_call_type "set" [.ref l] []) rfl]
  have n1 := PySem.F.called_set.notType; have n2 := PySem.F.called_set.canCreate; have n3 := PySem.F.typeCall_set_1 (.ref l)
  repeat (any_goals (first | assumption | wp_step))
  refine codeAny_mono (code_set_led1 (.ref l) (E := E) (Q₁ := fun ob s1 => ob = .ref s.heap.objs.size ∧ s1 = { s with heap := s.heap.push (so0 w) }) ⟨rfl, rfl⟩) fun rr s1 hr => ?_
  cases rr with
  | error e => exact hr
  | ok fl =>
    cases fl with
    | ret ob =>
      obtain ⟨rfl, rfl⟩ := hr
      have gS : (s.heap.push (so0 w)).get? s.heap.objs.size = some (so0 w) := Heap.get?_push_size _ rfl
      have tS : Shared.TypeIs { s with heap := s.heap.push (so0 w) } (.ref s.heap.objs.size) "set" := ⟨_, gS, rfl⟩
      have i1 := PySem.F.called_set.init.lookup; have i2 := PySem.F.called_set.init.bind (.ref s.heap.objs.size)
      repeat (any_goals (first | assumption | wp_step))
      refine codeAny_mono (codeAny_call_builtin (R := wants (fun z s2 => z = .none ∧ ∃ h1 tk c, s2 = { s with heap := h1, toks := tk } ∧ SetR w h1 s.heap.objs.size (fun j => decide (j ∈ ns)) c ∧ (∀ b o, s.heap.get? b = some o → h1.get? b = some o)) E) PySem.F.called_set.init.plain PySem.F.entry_set_init (check_set_init_1 tS ?_)) fun r2 s2 hr2 => ?_
      · obtain ⟨ol, g1, c1, nl, d1⟩ := lst
        obtain ⟨xc, xd, xa, xs⟩ := ol
        simp only at c1 d1
        subst c1; subst d1
        have g2 : (s.heap.push (so0 w)).get? l = some { cls := .type "list", dict := xd, data := .seq its nl, slots := xs } := Heap.get?_push_of_some _ g1
        have u1 := PySem.F.sub_list_set; have u2 := PySem.F.sub_list_frozenset
        have u3 : (Value.type "list" == Value.type "dict") = false := by decide
        have l1 : (s.heap.push (so0 w)).IsList l its := ⟨_, g2, rfl, nl, rfl⟩
        unfold Builtin.«set.__init__» noKeywords Builtin.Frozenset.updateFrom
        generalize hp : pyIter = pIt
        wp_walk
        subst hp
        refine wpAny_pyIter_list l1 (wpAny_bind (wpAny_runValue ?_))
        have lt : l < s.heap.objs.size := Heap.lt_size g1
        have h3 : A.in1.in1.in1.handled = none := by simp [hn0]
        have ne1 : l ≠ (s.heap.push (so0 w)).objs.size := by rw [Heap.size_push]; exact Nat.ne_of_lt (Nat.lt_succ_of_lt lt)
        have nm : s.heap.objs.size ∉ [(s.heap.push (so0 w)).objs.size, l] := by
          rw [Heap.size_push]
          simp only [List.mem_cons, List.mem_singleton, List.not_mem_nil, or_false, not_or]
          exact ⟨Nat.ne_of_lt (Nat.lt_succ_self _), Nat.ne_of_gt lt⟩
        have vals : ∀ (i : Nat) (v : Value), its[i]? = some v → ∃ k t, ns[i]? = some k ∧ v = .int k t := fun i v hv => by
          have hi : i < ns.length := by rw [← len]; exact (Array.getElem?_eq_some_iff.mp hv).1
          obtain ⟨t, e⟩ := PyProof.Rows.IntsAre.int_at iar i v (by rw [Array.getElem?_toList]; exact hv)
          exact ⟨ns[i], t, List.getElem?_eq_getElem hi, by rw [e, List.getD_eq_getElem?_getD, List.getElem?_eq_getElem hi] <;> rfl⟩
        refine set_update_ints ((Walks.list h3 _ l ne1 its).toS) s.heap.objs.size nm ns len small vals (its.size - 0) 0 _ (by omega) (Nat.zero_le _) ⟨⟨_, Heap.get?_push_size _ rfl, rfl, rfl⟩, (l1.push _)⟩ ⟨0, Nat.le_refl 0, setR_new_at (Heap.get?_push_of_some _ gS)⟩ ?_
        intro s' c' hm hc' hS'
        obtain ⟨h1, g3, d', tk', os'⟩ := s'
        have e1 : g3 = s.gens := hm.gens; have e2 : d' = s.drawn := hm.drawn; have e3 : os' = s.os := hm.os
        subst e1; subst e2; subst e3
        refine wpAny_pure (?_ : wpAny _ _ (ret Value.none) _ _ _)
        refine wpAny_pure ⟨rfl, h1, tk', c', rfl, hS', fun b o e => ?_⟩
        have b0 : b < s.heap.objs.size := Heap.lt_size e
        have b2 : b ≠ (s.heap.push (so0 w)).objs.size := by rw [Heap.size_push]; exact Nat.ne_of_lt (Nat.lt_succ_of_lt b0)
        exact hm.heap b o (by simp only [List.mem_cons, List.mem_singleton, List.not_mem_nil, or_false, not_or]; exact ⟨Nat.ne_of_lt b0, b2⟩) (Heap.get?_push_of_some _ (Heap.get?_push_of_some _ e))
      · cases r2 with
        | error e => exact hr2
        | ok f2 =>
          cases f2 with
          | ret z =>
            obtain ⟨rfl, h1, tk, c', rfl, hS', hk'⟩ := hr2
            repeat (any_goals (first | assumption | wp_step))
            exact fin _ _ _ hS' hk'
          | _ => exact hr2.elim
    | _ => exact hr.elim
end
theorem nodup_sub : ∀ (l m : List Int), l.Nodup → (∀ k ∈ l, k ∈ m) → l.length ≤ m.length
  | [], _, _, _ => Nat.zero_le _
  | a :: l, m, hn, h => by
    rw [List.nodup_cons] at hn
    have ha : a ∈ m := h a (by simp)
    have := nodup_sub l (m.erase a) hn.2 fun k hk => by
      have : k ≠ a := fun z => hn.1 (z ▸ hk)
      exact (List.mem_erase_of_ne this).mpr (h k (List.mem_cons_of_mem _ hk))
    rw [List.length_erase_of_mem ha] at this
    have := List.length_pos_of_mem ha
    rw [List.length_cons]
    omega
theorem setR_few {w : World} {h : Heap} {a : Addr} {ns m : List Int} {c : Nat} (R : SetR w h a (fun j => decide (j ∈ ns)) c) (hm : ∀ k ∈ ns, k ∈ m) : c ≤ m.length := by
  obtain ⟨o, es, ep, t, _, _, _, _, nd, hk, _, _, hn, _⟩ := R
  rw [← hn, ← Array.length_toList, ← List.length_map (f := keyOf)]
  exact nodup_sub _ m nd fun k hk' => hm k (by simpa using (hk k).mpr hk')
section
variable {X : Cx} {C : Ct} {W : XW} {k : Nat} {e : Expr} {t : TP} {p1 p2 c1 c2 : Pos}
theorem cr_setI (hc : X.calm = true) : CallR X (.type "set") (fun xs H Q => ∃ (a : Addr) (ns m : List Int), xs = [.ref a] ∧ SqL X.K H a (ns.map V.int) ∧ ns.length ≤ 1000 ∧ (∀ k ∈ ns, k ∈ m) ∧ ∀ p c, H p = none → c ≤ m.length → Q (.ref p) (upd H p (SetO X.w p (fun j => decide (j ∈ ns)) c))) := by
  intro pins s σ H xs us Q I r ⟨a, ns, m, e, sq, hl, hm, q⟩
  subst e
  obtain ⟨u, rfl, ru⟩ := vals1 r
  obtain rfl : u = Value.ref a := ru
  obtain ⟨its, rv, pl, hlen⟩ := I.list sq
  refine set_of_ints ns (by have := I.ok.hd hc; exact this) pl.isList (ints_of_vals rv) (by show ns.length + 1 < 4096; omega) fun h1 tk c R hk => ?_
  exact ⟨.ref _, _, I.laid (t' := tk) hk (Nat.le_refl _) (setO_new R), rfl, q _ c I.fresh (setR_few R hm)⟩
/-- sorted(set(xs)), few ints -/
def wSortSet (t : TP) : TP := fun r Q E => t r (fun d => match d with
  | .list ds => ∃ ns m : List Int, dInts ds = some ns ∧ ns.length ≤ 1000 ∧ (∀ k ∈ ns, k ∈ m) ∧ m.length < 64 ∧ ∀ out : List Int, out.Pairwise (· < ·) → (∀ k, k ∈ out ↔ k ∈ ns) → Q (.list (out.map D.int))
  | _ => False) E
theorem rpa_ints {K : PySem.W.Frag} {P : Program} {w : World} {M : Addr → Prop} {H : Hp} : ∀ ns : List Int, RpA K P w M H (ns.map V.int) (ns.map D.int)
  | [] => .nil
  | n :: ns => .cons (.int n) (rpa_ints ns)
theorem boot_sorted' : bootBuiltins "sorted" = some (.builtin "sorted") := by decide +kernel
theorem boot_set' : bootBuiltins "set" = some (.type "set") := by decide +kernel
theorem dn_sortSet (G : Good X C W k) (ha : DE X C W e t) (m1 : X.mg "sorted" = none) (m2 : X.mg "set" = none) (hg1 : Gl X "sorted" := by rfl) (hg2 : Gl X "set" := by rfl)
    (he1 : starEach [e] X.env = (false, eval e X.env) :: starEach [] X.env := by rfl) (hp1 : (backTo c2 (starEach [] X.env)).any (·.1) = false := by rfl)
    (he2 : starEach [.Call (.Name "set" p2) [e] [] c2] X.env = (false, eval (.Call (.Name "set" p2) [e] [] c2) X.env) :: starEach [] X.env := by rfl) (hp2 : (backTo c1 (starEach [] X.env)).any (·.1) = false := by rfl) :
    DN X C W (.Call (.Name "sorted" p1) [.Call (.Name "set" p2) [e] [] c2] [] c1) (wSortSet t) := by
  refine ⟨(pe_callB (cr_sortedSet G.calm) hg1 m1 boot_sorted' (pa_cons (pe_callTy (cr_setI G.calm) hg2 m2 boot_set' (pa_cons ha.pe pa_nil he1) (by decide) (by decide) he1 hp1) pa_nil he2) (by decide) (by decide) he2 hp2).imp fun σ H Q ⟨M, r, E, S, hW, q⟩ => ⟨M, r, E, S, hW, ha.mo.imp (fun x z v H1 k1 S1 p1 => ?_) (fun _ z => z) q⟩,
    ⟨fun hq hE q => ha.mo.imp (fun x z => ?_) hE q⟩⟩
  · cases x with
    | list ds =>
      obtain ⟨ns, m, e1, h1, h2, h3, q⟩ := z
      cases of_ints e1
      obtain ⟨a, ys, rfl, ea, pa⟩ := p1.lst
      rw [HC.RpA.ofInts pa] at ea
      refine ⟨a, ns, m, rfl, SqL.of ea, h1, h2, fun p c hp hc => ?_⟩
      refine ⟨p, _, c, rfl, upd_same, Nat.lt_of_le_of_lt hc h3, fun out b hs hm hl hb => ?_⟩
      have s1 : Same H1 (upd H1 p (SetO X.w p (fun j => decide (j ∈ ns)) c)) := same_upd hp
      have s2 : Same (upd H1 p (SetO X.w p (fun j => decide (j ∈ ns)) c)) (upd (upd H1 p (SetO X.w p (fun j => decide (j ∈ ns)) c)) b (.lst (out.map V.int))) := same_upd hb
      have hb1 : H1 b = none := by
        cases z : H1 b with
        | none => rfl
        | some o => rw [s1 b o z] at hb; cases hb
      have S3 := S1.take (p := b) (H' := upd (upd H1 p (SetO X.w p (fun j => decide (j ∈ ns)) c)) b (.lst (out.map V.int))) hb1 (s1.trans s2) (by rw [upd_same]; simp)
      exact q out hs (fun j => by rw [hm j]; simp) b _ (k1.trans (Same.ex (s1.trans s2))) (S1.none_of k1 hb1) S3 (.lst upd_same (rpa_ints out))
    | _ => exact z.elim
  · cases x with
    | list ds => exact let ⟨ns, m, e1, h1, h2, h3, q⟩ := z; ⟨ns, m, e1, h1, h2, h3, fun out a b => hq _ (q out a b)⟩
    | _ => exact z
end
/-! ### y = xs.pop() -/
def sPop (j i : Nat) : TSD := fun e r => match slot r i with
  | .own (.list ds) => ∃ ds' d, ds = ds' ++ [d] ∧ e.nx ((r.set i (.own (.list ds'))).set j (.val d))
  | _ => False
theorem rpa_snoc {K : PySem.W.Frag} {P : Program} {w : World} {M : Addr → Prop} {H : Hp} : ∀ {ds : List D} {d : D} {xs : List V}, RpA K P w M H xs (ds ++ [d]) → ∃ v, xs[xs.length - 1]? = some v ∧ RpA K P w M H xs.dropLast ds ∧ Rp K P w M H v d
  | [], d, xs, h => by
    cases h with
    | cons a b => cases b; exact ⟨_, rfl, .nil, a⟩
  | d0 :: ds, d, xs, h => by
    cases h with
    | cons a b =>
      obtain ⟨v, h1, h2, h3⟩ := rpa_snoc b
      rename_i v0 vs
      cases vs with
      | nil => simp at h1
      | cons v1 vs =>
        refine ⟨v, ?_, .cons a h2, h3⟩
        simpa using h1
section
variable {X : Cx} {C : Ct} {W : XW} {k : Nat} {pos : Pos}
theorem ds_pop (j i : Nat) {x y : Str} {py p1 p2 p3 : Pos} (G : Good X C W k) (hN : X.N[i]? = some x := by rfl) (hv : Vis X.env.scope x := by first | exact Or.inl rfl | exact Or.inr (Or.inl rfl) | exact Or.inr (Or.inr rfl))
    (hd : (x == ("__debug__" : Str)) = false := by decide) (hcd : (x == ("__classdict__" : Str)) = false := by decide) (hj : X.N[j]? = some y := by rfl) (hy : Loc X.env.scope y := by first | exact Or.inl rfl | exact Or.inr rfl)
    (hfy : X.fn y = true ∨ X.env.scope.names.lookup y = some .local := by first | exact .inl rfl | exact .inr rfl | assumption)
    (hbase : attributeBase (.Name x p1) "pop" X.env (eval (.Name x p1) X.env) = eval (.Name x p1) X.env := by rfl) (hline : (p2.endLine == p3.line) = true := by rfl)
    (hs : swapsWithSole [.Name y py] (.Call (.Attribute (.Name x p1) "pop" p2) [] [] p3) pos.line X.env = pure false := by rfl) (hw : swappedStores [.Name y py] (.Call (.Attribute (.Name x p1) "pop" p2) [] [] p3) X.env = pure none := by rfl) :
    DS X C W (.Assign [.Name y py] (.Call (.Attribute (.Name x p1) "pop" p2) [] [] p3) pos) (sPop j i) := by
  refine ⟨(ps_asg (pe_bm0 PySem.F.plainAttrs_list PySem.F.slot_list_pop PySem.F.type_list_pop mt_pop (pe_var (i := i) hN hv hd hcd) hbase hline) (pg_name G.nd hj hy hfy) hs hw).imp fun De σ H ⟨M, r, e, S, f, q⟩ => ?_, ⟨fun {e e' r} h q => ?_⟩⟩
  · unfold sPop at q
    split at q
    · rename_i ds es
      obtain ⟨ds', d, rfl, z⟩ := q
      have hr := slot_get es (by simp)
      obtain ⟨a, e1, m, h0, m0, tp⟩ := S.own i _ hr
      cases tp with
      | @lst xs _ ea pa =>
        obtain ⟨v, hlast, pd, pv⟩ := rpa_snoc pa
        refine ⟨.ref a, e1, .inl ⟨rfl, _, SqL.of ea⟩, a, xs, v, rfl, rfl, ea, hlast, ?_⟩
        obtain ⟨s2, S2⟩ := S.mut (o := .lst xs.dropLast) (d' := .list ds') hr e1 fun s2 => .lst upd_same (pd.step s2)
        exact f.nx M _ _ _ s2 (S2.set (i := j) (HC.Rp.step s2 pv)) z
    · exact q.elim
  · unfold sPop at q ⊢
    split at q
    · exact let ⟨ds', d, a, b⟩ := q; ⟨ds', d, a, h.nx _ b⟩
    · exact q
end
end HC
/-! HY7: sorted(list of data), sorted(dict). -/
namespace HC
open PySem PySem.Spec PyProof.Rows L2
mutual
theorem rd_there {h : Heap} : ∀ {v : Value} {d : PyData} {as : List Addr}, Reads h v d as → ∀ b ∈ as, ∃ o, h.get? b = some o
  | _, _, _, .none, b, hb => by cases hb
  | _, _, _, .bool _, b, hb => by cases hb
  | _, _, _, .int _ _, b, hb => by cases hb
  | _, _, _, .str _ _, b, hb => by cases hb
  | _, _, _, .list h1 h2 h3 h4, b, hb => by
    rcases List.mem_cons.mp hb with rfl | hb
    · exact ⟨_, h1⟩
    · exact rds_there h4 b hb
  | _, _, _, .tuple h1 h2 h3 h4, b, hb => rds_there h4 b hb
  | _, _, _, .dict h1 h2 h3 h4 h5, b, hb => by
    rcases List.mem_append.mp hb with hb | hb
    · rcases List.mem_cons.mp hb with rfl | hb
      · exact ⟨_, h1⟩
      · exact rds_there h4 b hb
    · exact rds_there h5 b hb
theorem rds_there {h : Heap} : ∀ {v : List Value} {d : List PyData} {as : List Addr}, ReadsAll h v d as → ∀ b ∈ as, ∃ o, h.get? b = some o
  | _, _, _, .nil, b, hb => by cases hb
  | _, _, _, .cons h1 h2, b, hb => by
    rcases List.mem_append.mp hb with hb | hb
    · exact rd_there h1 b hb
    · exact rds_there h2 b hb
end
/-- what is sorted: alike data -/
structure SortOk (ds : List D) : Prop where
  pl : D.plains ds = true
  al : PySem.W.AllAlike (ds.map D.py)
  so : PySem.W.Sortable (ds.map D.py)
  dp : ∀ d ∈ ds, d.py.depth ≤ 60
  sz : ds.length ≤ 1000
def sortD (ds : List D) : List D := ds.mergeSort (PySem.W.dataLe false D.py)
section
variable {X : Cx} {C : Ct} {W : XW} {k : Nat} {M : Addr → Prop} {H : Hp} {pins : List (Addr × Obj)} {σ : L2.St} {s : Shared}
theorem each_of (I : Inv X pins σ H s) : ∀ {vs : List V} {ds : List D} {us : List Value}, RpA X.K X.prog X.w M H vs ds → Vals vs us → D.plains ds = true →
    PySem.W.EachIs (fun u d => ∃ v, RelV v u ∧ Rp X.K X.prog X.w M H v d) us ds ∧ PySem.W.EachIs (fun u d => ∃ as, Reads s.heap u (D.py d) as) us ds
  | _, _, _, .nil, .nil, _ => ⟨.nil, .nil⟩
  | _, _, _, .cons (d := d) a b, .cons r t, hp => by
    have hp' : (d.plain && D.plains _) = true := hp
    rw [Bool.and_eq_true] at hp'
    obtain ⟨h1, h2⟩ := each_of I b t hp'.2
    exact ⟨.cons ⟨_, r, a⟩ h1, .cons (Dp.reads I _ _ _ (a.dp hp'.1) r) h2⟩
theorem rpn_keysA {K : PySem.W.Frag} {P : Program} {w : World} {M : Addr → Prop} {H : Hp} : ∀ {ys : List (NestedKey × Addr × Value)} {kvs : List (NestedKey × D)}, RpN K P w M H ys kvs → RpA K P w M H ((ys.map (·.2.1)).map V.ref) (kvs.map fun p => keyD p.1)
  | _, _, .nil => .nil
  | _, _, .cons a _ _ c => .cons a (rpn_keysA c)
theorem each_back : ∀ {us : List Value} {ds : List D}, PySem.W.EachIs (fun u d => ∃ v, RelV v u ∧ Rp X.K X.prog X.w M H v d) us ds → ∃ vs, Vals vs us ∧ RpA X.K X.prog X.w M H vs ds
  | _, _, .nil => ⟨[], .nil, .nil⟩
  | _, _, .cons ⟨v, r, p⟩ t => let ⟨vs, r', p'⟩ := each_back t; ⟨v :: vs, .cons r r', .cons p p'⟩
theorem SortOk.units {ds : List D} (h : SortOk ds) (hu : X.A.units + 65 < cLine) : ∀ b, b ∈ ds → X.A.units + 2 + (D.py b).depth < cLine := fun b hb => by
  have := h.dp b hb
  omega
/-- sorted(xs) -/
theorem cr_sortL (hu : X.A.units + 65 < cLine) : CallR X (.builtin "sorted") (fun xs H Q => ∃ (a : Addr) (vs : List V) (M : Addr → Prop) (ds : List D), xs = [.ref a] ∧ SqL X.K H a vs ∧ RpA X.K X.prog X.w M H vs ds ∧ SortOk ds ∧
    ∀ p ws, H p = none → RpA X.K X.prog X.w M H ws (sortD ds) → Q (.ref p) (upd H p (.lst ws))) := by
  intro pins s σ H xs us Q I r ⟨a, vs, M, ds, e, sq, pa, ok, q⟩
  subst e
  obtain ⟨u, rfl, ru⟩ := vals1 r
  obtain rfl : u = Value.ref a := ru
  obtain ⟨its, rv, pl, hlen⟩ := I.list sq
  obtain ⟨e1, e2⟩ := each_of I pa rv ok.pl
  refine PySem.W.sorted_data (bs := ds) (enc := D.py) pl.isList e1 e2 ok.al ok.so (le1000 ok.sz) (ok.units hu) fun out ho eo => ?_
  obtain ⟨ws, rw', pw⟩ := each_back eo
  obtain ⟨c, hc⟩ := sortedAll_at s.heap its out.toArray
  have hl : ws.length = ds.length := by rw [Vals.length rw']; exact ho
  refine ⟨.ref _, upd H (s.heap.objs.size + 1) (.lst ws), I.laid (t' := s.toks) (fun b o e => sortedAll_old e) (Nat.le_succ _) ⟨by rw [hl]; exact le1000 ok.sz, out, c, rw', hc⟩, rfl, q _ ws (I.hok.fresh (Nat.le_succ _)) pw⟩
/-- sorted(d): its keys -/
theorem cr_sortT (hc : X.calm = true) (hu : X.A.units + 65 < cLine) : CallR X (.builtin "sorted") (fun xs H Q => ∃ (a : Addr) (ob : Obj) (ys : List (NestedKey × Addr × Value)) (M : Addr → Prop) (kvs : List (NestedKey × D)), xs = [.ref a] ∧ H a = some (dnO a ob) ∧ DEnt X.prog X.w a ob ys ∧ RpN X.K X.prog X.w M H ys kvs ∧ SortOk (kvs.map fun p => keyD p.1) ∧
    ∀ p ws, H p = none → RpA X.K X.prog X.w M H ws (sortD (kvs.map fun p => keyD p.1)) → Q (.ref p) (upd H p (.lst ws))) := by
  intro pins s σ H xs us Q I r ⟨a, ob, ys, M, kvs, e, ea, de, rn, ok, q⟩
  subst e
  obtain ⟨u, rfl, ru⟩ := vals1 r
  obtain rfl : u = Value.ref a := ru
  have hlk := rpn_len rn
  obtain ⟨es, ep, h4, hks⟩ := dent_keys de
  have h1 := de.1; have h2 := de.2.1; have h3 := de.2.2.1
  have ho : s.heap.get? a = some ob := (I.hok a _ ea).1
  have raw : s.heap.DictRaw a es ep := ⟨ob, ho, h3, h4⟩
  have Ks : PySem.W.KdlSrc X.prog X.w "dict" a a es.size (fun i v => ∃ hi : i < es.size, v = es[i].key) (fun h => h.DictRaw a es ep) := KdlSrc.rawDict h2
  have hsz : es.size = ys.length := by
    have := congrArg List.length hks
    simpa using this
  have pk := rpn_keysA rn
  have rk : Vals ((ys.map (·.2.1)).map V.ref) (es.toList.map (·.key)) := by
    rw [hks]
    generalize ys.map (·.2.1) = l
    induction l with
    | nil => exact .nil
    | cons x l ih => exact .cons rfl ih
  refine Calls.call_function_entry kind_sorted plain_sorted entry_sorted (args_sorted1 _) ?_
  unfold Builtin.«sorted»
  refine wpAny_bind (m := checkCount "sorted" 1 1 _) (wpAny_pure (wpAny_bind (PySem.W.kdu_collect (A := X.A.in1) Ks (by have := I.ok.hd hc; simpa using this) raw (by rw [hsz]; exact h1) fun h' tk acc hk hacc => ?_)))
  have el : acc.toList = es.toList.map (·.key) := by
    refine List.ext_getElem? fun n => ?_
    rw [List.getElem?_map, Array.getElem?_toList, Array.getElem?_toList]
    by_cases hn : n < es.size
    · have hn' : n < acc.size := by rw [hacc.1]; exact hn
      obtain ⟨_, e⟩ := hacc.2 n acc[n] (Array.getElem?_eq_getElem hn')
      rw [Array.getElem?_eq_getElem hn', Array.getElem?_eq_getElem hn, e]
      rfl
    · rw [Array.getElem?_eq_none (by rw [hacc.1]; omega), Array.getElem?_eq_none (by omega)]
      rfl
  rw [el]
  have ll : (es.toList.map (·.key)).length ≤ sizeLine := by rw [List.length_map, Array.length_toList, hsz]; exact h1
  refine wpAny_bind (wpAny_newList ?_ ll)
  have I1 : Inv X pins σ H { s with heap := h', toks := tk } := I.kept hk
  obtain ⟨e1, e2⟩ := each_of I1 pk rk ok.pl
  have hk2 : ∀ b o, h'.get? b = some o → (h'.push { cls := .type "list", data := .seq (es.toList.map (·.key)).toArray }).get? b = some o := fun b o e => Heap.get?_push_of_some _ e
  have gD : (h'.push { cls := .type "list", data := .seq (es.toList.map (·.key)).toArray }).get? h'.objs.size = some (seqObj "list" (es.toList.map (·.key)).toArray 0) := Heap.get?_push_size _ rfl
  have e3 : PySem.W.EachIs (fun u d => ∃ as, Reads (h'.push { cls := .type "list", data := .seq (es.toList.map (·.key)).toArray }) u (D.py d) as ∧ h'.objs.size ∉ as) (es.toList.map (·.key)) (kvs.map fun p => keyD p.1) := e2.mono fun u d ⟨as, rr⟩ => ⟨as, PyProof.Rows.Reads.keeps hk2 rr, fun hm => by
    obtain ⟨o, hb⟩ := rd_there rr _ hm
    exact Nat.lt_irrefl _ (Heap.lt_size hb)⟩
  have hu2 : ∀ b, b ∈ (kvs.map fun p => keyD p.1) → X.A.in1.units + 1 + (D.py b).depth < cLine := fun b hb => by
    have := ok.units hu b hb
    have e : X.A.in1.units ≤ X.A.units + 1 := by simp [Around.in1]
    omega
  refine wpAny_bind (wpAny_holding (wpAny_mono (PySem.W.list_sort_data (s := { s with heap := h'.push { cls := .type "list", data := .seq (es.toList.map (·.key)).toArray }, toks := tk }) (bs := kvs.map fun p => keyD p.1) (enc := D.py)
    (Q := fun _ s' => EP X pins σ Q (.ref h'.objs.size) s') gD e1 e3 ok.al ok.so (le1000 ok.sz) hu2 fun out ho' eo => ?_) (fun _ s' x => wpAny_pure ⟨_, rfl, x⟩) fun _ _ e => e))
  · obtain ⟨ws, rw', pw⟩ := each_back eo
    obtain ⟨c, hc'⟩ := sortedHeap_at (vs := es.toList.map (·.key)) (out := out.toArray) gD
    have hl : ws.length = (kvs.map fun p => keyD p.1).length := by rw [Vals.length rw']; exact ho'
    refine ⟨.ref _, upd H h'.objs.size (.lst ws), I1.laid (t' := tk) (fun b o e => ?_) (Nat.le_refl _) ⟨by rw [hl]; exact le1000 ok.sz, out, c, rw', hc'⟩, rfl, q _ ws (I1.hok.fresh (Nat.le_refl _)) pw⟩
    have lt : b < h'.objs.size := Heap.lt_size e
    have e' := hk2 b o e
    rw [sortedHeap_old (Nat.ne_of_lt lt) (Heap.lt_size e')]
    exact e'
def wSorted (t : TP) : TP := fun r Q E => t r (fun d => match d with
  | .list ds => SortOk ds ∧ Q (.list (sortD ds))
  | .tdict kvs => SortOk (kvs.map fun p => keyD p.1) ∧ Q (.list (sortD (kvs.map fun p => keyD p.1)))
  | _ => False) E
theorem CallR_or {f : Value} {r1 r2 : List V → Hp → VK → Prop} (h1 : CallR X f r1) (h2 : CallR X f r2) : CallR X f (fun x H Q => r1 x H Q ∨ r2 x H Q) := fun pins s σ H x v Q I r q => by
  rcases q with q | q
  · exact h1 pins s σ H x v Q I r q
  · exact h2 pins s σ H x v Q I r q
theorem dn_sorted {e : Expr} {t : TP} {p1 c1 : Pos} (G : Good X C W k) (ha : DE X C W e t) (m1 : X.mg "sorted" = none) (hg1 : Gl X "sorted" := by rfl)
    (he1 : starEach [e] X.env = (false, eval e X.env) :: starEach [] X.env := by rfl) (hp1 : (backTo c1 (starEach [] X.env)).any (·.1) = false := by rfl) :
    DN X C W (.Call (.Name "sorted" p1) [e] [] c1) (wSorted t) := by
  refine ⟨(pe_callB (CallR_or (cr_sortL G.hu65) (cr_sortT G.calm G.hu65)) hg1 m1 boot_sorted' (pa_cons ha.pe pa_nil he1) (by decide) (by decide) he1 hp1).imp fun σ H Q ⟨M, r, E, S, hW, q⟩ => ⟨M, r, E, S, hW, ha.mo.imp (fun x z v H1 k1 S1 p1 => ?_) (fun _ z => z) q⟩,
    ⟨fun hq hE q => ha.mo.imp (fun x z => ?_) hE q⟩⟩
  · have F := G.fit
    obtain ⟨K0, P0, w0, T0, M0, H0⟩ := C
    obtain ⟨z1, z2, z3⟩ := F
    cases z1; cases z2; cases z3
    have fin : ∀ (d : List D), (∀ p H', Ct.Ex ⟨X.K, X.prog, X.w, T0, M0, H0⟩ H H' → H p = none → Sim ⟨X.K, X.prog, X.w, T0, M0, H0⟩ (fun a => M a ∨ a = p) r σ H' → Top X.K X.prog X.w (fun a => M a ∨ a = p) H' p (.list d) → Q (.ref p) H') → ∀ p ws, H1 p = none → RpA X.K X.prog X.w M H1 ws d → Q (.ref p) (upd H1 p (.lst ws)) := fun d q p ws hp pw => by
      have sm : Same H1 (upd H1 p (.lst ws)) := same_upd hp
      have S3 := S1.take (p := p) (H' := upd H1 p (.lst ws)) hp sm (by rw [upd_same]; simp)
      exact q p _ (k1.trans (Same.ex sm)) (S1.none_of k1 hp) S3 (.lst upd_same (HC.RpA.step (fun a o e m => ⟨sm a o e, fun z => z.elim m fun q => by rw [q, hp] at e; cases e⟩) pw))
    cases x with
    | list ds =>
      obtain ⟨a, ys, rfl, ea, pa⟩ := p1.lst
      exact .inl ⟨a, ys, M, ds, rfl, SqL.of ea, pa, z.1, fin _ z.2⟩
    | tdict kvs =>
      obtain ⟨a, ob, xs, rfl, ea, de, rn⟩ := p1.td
      exact .inr ⟨a, ob, xs, M, kvs, rfl, ea, de, rn, z.1, fin _ z.2⟩
    | _ => exact z.elim
  · cases x with
    | list ds => exact ⟨z.1, hq _ z.2⟩
    | tdict ds => exact ⟨z.1, hq _ z.2⟩
    | _ => exact z
end
end HC
/-! HT1: texts: str(), int(), join, split, index, slices, repeats, walks. -/
namespace HC
open PySem PySem.Spec PyProof.Rows L2
/-! ### str(x), int(s) -/
def gStr : Bn
  | [.int i], Q => i.natAbs.log2 < 1920 ∧ Q (.str (toString i))
  | [.str z], Q => Q (.str z)
  | _, _ => False
def gInt : Bn
  | [.str z], Q => ∃ n, PySem.intText? z = some n ∧ z.length ≤ 640 ∧ Q (.int n)
  | _, _ => False
section
variable {X : Cx} {C : Ct} {W : XW} {k : Nat}
theorem b_str : Blt X C (.type "str") gStr := by
  refine ⟨?_, ⟨fun {ds Q Q'} hq h => ?_⟩⟩
  · refine (call_str_int.or SkE.call_str_str).imp fun xs H Q ⟨M, ds, r, dm, h⟩ => ?_
    unfold gStr at h
    split at h
    · obtain ⟨v, rfl, r1⟩ := rq1 r
      exact .inl ⟨_, by rw [r1.int], h.1, h.2 _ _ Same.refl' (.str _)⟩
    · obtain ⟨v, rfl, r1⟩ := rq1 r
      exact .inr ⟨_, by rw [r1.str], h _ _ Same.refl' (.str _)⟩
    · exact h.elim
  · unfold gStr at h ⊢
    split at h <;> first | exact hq _ h | exact ⟨h.1, hq _ h.2⟩ | exact h
theorem b_int : Blt X C (.type "int") gInt := by
  refine ⟨?_, ⟨fun {ds Q Q'} hq h => ?_⟩⟩
  · refine call_int_str.imp fun xs H Q ⟨M, ds, r, dm, h⟩ => ?_
    unfold gInt at h
    split at h
    · obtain ⟨v, rfl, r1⟩ := rq1 r
      obtain ⟨n, h1, h2, h3⟩ := h
      exact ⟨_, n, by rw [r1.str], h1, h2, h3 _ _ Same.refl' (.int _)⟩
    · exact h.elim
  · unfold gInt at h ⊢
    split at h
    · obtain ⟨n, h1, h2, h3⟩ := h
      exact ⟨n, h1, h2, hq _ h3⟩
    · exact h
end
/-! ### methods of texts -/
abbrev Ms := Str → List D → (D → Prop) → Prop
structure MoMs (g : Ms) : Prop where
  imp : ∀ {x : Str} {y : List D} {Q Q' : D → Prop}, (∀ d, Q d → Q' d) → g x y Q → g x y Q'
def wMs (g : Ms) (to : TP) (u : TPA) : TP := fun r Q E => to r (fun x => match x with
  | .str z => u r (fun ys => g z ys Q) E
  | _ => False) E
def rDs (C : Ct) (g : Ms) : V → List V → Hp → VK → Prop := fun x xs H Q => ∃ M z ys, x = .str z ∧ RqA C M H xs ys ∧ Dom M H ∧ g z ys fun d => ∀ v H', Same H H' → C.Rp M H' v d → Q v H'
section
variable {X : Cx} {C : Ct} {W : XW} {k : Nat} {o e : Expr} {es : List Expr} {to : TP} {u : TPA} {g : Ms} {name : Str} {id : String} {apos cpos : Pos}
theorem dv_methS (G : Good X C W k) (slot : Slot "str" name id) (hty : typeOf (.builtin id) = pure (.type "method_descriptor")) (hm : MtR X id (rDs C g)) (mg : MoMs g) (ho : DE X C W o to) (ha : DAq X C W (e :: es) u)
    (hbase : attributeBase o name X.env (eval o X.env) = eval o X.env := by rfl)
    (hfew : ((backTo cpos (starEach (e :: es) X.env)).all (fun x => !x.1) && (backToKw cpos (keywordEach [] X.env)).all (fun x => x.1.isSome)
      && decide ((e :: es).length + ([] : List Keyword).length + (if ([] : List Keyword).isEmpty then 0 else 1) < 30)) = true := by rfl)
    (hline : (apos.endLine == cpos.line) = true := by rfl) (hs : starEach (e :: es) X.env = (false, eval e X.env) :: starEach es X.env := by rfl) (hplain : (backTo cpos (starEach es X.env)).any (·.1) = false := by rfl) :
    DV X C W (.Call (.Attribute o name apos) (e :: es) [] cpos) (wMs g to u) := by
  refine ⟨(pe_bm PySem.F.plainAttrs_str slot hty hm ho.pe ha.pa hbase hfew hline hs hplain).imp fun σ H Q ⟨M, r, E, S, hW, q⟩ => ⟨M, r, E, S, hW, ho.mo.imp (fun x z v H1 k1 S1 p1 => ?_) (fun _ z => z) q⟩,
    ⟨fun hq he q => ho.mo.imp (fun x z => ?_) he q⟩⟩
  · cases x with
    | str zz =>
      have ev := p1.str
      subst ev
      refine ⟨rfl, M, r, E, S1, hW.mono k1, ha.mo.imp (fun ys hl z vs H2 k2 S2 p2 => ⟨M, zz, ys, rfl, p2, S2.dom, mg.imp (fun d z v H3 sm rp => ?_) z⟩) (fun _ z => z) z⟩
      exact z v H3 (k1.trans (k2.trans (Same.ex sm))) (S2.same sm) rp
    | _ => exact z.elim
  · cases x with
    | str ds => exact ha.mo.imp (fun ys _ z => mg.imp hq z) he z
    | _ => exact z
end
def dStrs : List D → Option (List Str)
  | [] => some []
  | .str i :: r => (dStrs r).map (i :: ·)
  | _ :: _ => none
theorem strs_map : ∀ ns : List Str, dStrs (ns.map D.str) = some ns
  | [] => rfl
  | n :: r => by
    show (dStrs (r.map D.str)).map (n :: ·) = _
    rw [strs_map r]; rfl
theorem of_strs : ∀ {ds : List D} {ns : List Str}, dStrs ds = some ns → ds = ns.map D.str
  | [], ns, h => by cases h; rfl
  | .str i :: r, ns, h => by
    obtain ⟨r', h1, rfl⟩ := Option.map_eq_some_iff.mp h
    rw [of_strs h1]; rfl
  | .none :: _, _, h | .bool _ :: _, _, h | .int _ :: _, _, h | .list _ :: _, _, h | .tuple _ :: _, _, h | .dict _ :: _, _, h | .tdict _ :: _, _, h | .exc _ :: _, _, h | .kdict _ :: _, _, h => by cases h
theorem RpA.ofStrs {K : PySem.W.Frag} {P : Program} {w : World} {M : Addr → Prop} {H : Hp} : ∀ {ns : List Str} {vs : List V}, RpA K P w M H vs (ns.map D.str) → vs = ns.map V.str
  | [], _, .nil => rfl
  | n :: r, _, .cons h t => by
    cases h
    rw [RpA.ofStrs t]; rfl
theorem rpA_strs {K : PySem.W.Frag} {P : Program} {w : World} {M : Addr → Prop} {H : Hp} : ∀ (ns : List Str), RpA K P w M H (ns.map V.str) (ns.map D.str)
  | [] => .nil
  | n :: r => .cons (.str n) (rpA_strs r)
def gJoin : Ms := fun z ys Q => match ys with
  | [.list ds] => ∃ ns, dStrs ds = some ns ∧ (ns.map (·.length)).sum + ns.length * z.length ≤ 16777216 ∧ Q (.str (Txt.join z ns))
  | _ => False
def gSplit : Ms := fun z ys Q => match ys with
  | [.str b] => (b.length == 0) = false ∧ z.length + 2 ≤ sizeLine ∧ Q (.list ((Txt.split z b).map D.str))
  | _ => False
def gSIndex : Ms := fun z ys Q => match ys with
  | [.str b] => ∃ i rest, PySem.Builtin.Str.occurrences z b 0 z.length 1 = i :: rest ∧ Q (.int (i : Nat))
  | _ => False
theorem mo_join : MoMs gJoin := ⟨fun {x y Q Q'} hq h => by
  unfold gJoin at h ⊢
  split at h
  · obtain ⟨ns, a, b, c⟩ := h
    exact ⟨ns, a, b, hq _ c⟩
  · exact h⟩
theorem mo_split : MoMs gSplit := ⟨fun {x y Q Q'} hq h => by
  unfold gSplit at h ⊢
  split at h
  · exact ⟨h.1, h.2.1, hq _ h.2.2⟩
  · exact h⟩
theorem mo_sindex : MoMs gSIndex := ⟨fun {x y Q Q'} hq h => by
  unfold gSIndex at h ⊢
  split at h
  · obtain ⟨i, r, a, b⟩ := h
    exact ⟨i, r, a, hq _ b⟩
  · exact h⟩
section
variable {X : Cx} {C : Ct}
theorem mt_joinD (F : Fit X C) : MtR X "str.join" (rDs C gJoin) := by
  refine fit_cases (X := X) (motive := fun C => MtR X "str.join" (rDs C gJoin)) (fun T M0 H0 => ?_) C F
  intro pins s σ H x xs v us Q I rx rxs ⟨M, z, ys, ex, r2, dm, h⟩
  refine mt_join pins s σ H x xs v us Q I rx rxs ?_
  unfold gJoin at h
  split at h
  · obtain ⟨ns, e1, h2, h3⟩ := h
    obtain ⟨w, rfl, r3⟩ := rq1 r2
    cases of_strs e1
    obtain ⟨a, zs, rfl, ea, pa⟩ := r3.lst
    have ez := HC.RpA.ofStrs pa
    subst ez
    exact ⟨z, a, ns, ex, rfl, .inl (SqL.of ea), h2, h3 _ _ Same.refl' (.str _)⟩
  · exact h.elim
theorem mt_splitD (F : Fit X C) : MtR X "str.split" (rDs C gSplit) := by
  refine fit_cases (X := X) (motive := fun C => MtR X "str.split" (rDs C gSplit)) (fun T M0 H0 => ?_) C F
  intro pins s σ H x xs v us Q I rx rxs ⟨M, z, ys, ex, r2, dm, h⟩
  refine mt_split pins s σ H x xs v us Q I rx rxs ?_
  unfold gSplit at h
  split at h
  · obtain ⟨w, rfl, r3⟩ := rq1 r2
    refine ⟨z, _, ex, by rw [r3.str], h.1, h.2.1, fun p hp => h.2.2 _ _ (same_upd hp) (.lst (dm.fresh hp) upd_same (rpA_strs _))⟩
  · exact h.elim
theorem mt_sindexD (F : Fit X C) : MtR X "str.index" (rDs C gSIndex) := by
  refine fit_cases (X := X) (motive := fun C => MtR X "str.index" (rDs C gSIndex)) (fun T M0 H0 => ?_) C F
  intro pins s σ H x xs v us Q I rx rxs ⟨M, z, ys, ex, r2, dm, h⟩
  refine mt_sindex pins s σ H x xs v us Q I rx rxs ?_
  unfold gSIndex at h
  split at h
  · obtain ⟨w, rfl, r3⟩ := rq1 r2
    obtain ⟨i, rest, h1, h2⟩ := h
    exact ⟨z, _, i, rest, ex, by rw [r3.str], h1, h2 _ _ Same.refl' (.int _)⟩
  · exact h.elim
end
/-! ### TUPLE.index(word), TUPLE a written tuple of texts -/
def KFlatN (K : PySem.W.Frag) (mg : Str → Option Value) (x : Str) (ds : List D) : Prop := ∃ a o, mg x = some (.ref a) ∧ K.lookup a = some o ∧ o.cls = .type "tuple" ∧ o.dict = none ∧ KTup K a (ds.map D.v) ∧ ds.all D.flat = true
theorem KFlatN.flat {K : PySem.W.Frag} {mg : Str → Option Value} {x : Str} {ds : List D} : KFlatN K mg x ds → KFlat K mg x ds := fun ⟨a, _, h1, _, _, _, h2, h3⟩ => ⟨a, h1, h2, h3⟩
def wTIndex (ns : List Str) (u : TPA) : TP := fun r Q E => u r (fun ys => match ys with
  | [.str z] => ∃ j : Nat, ns[j]? = some z ∧ (∀ m, m < j → ns[m]? ≠ some z) ∧ Q (.int (j : Nat))
  | _ => False) E
theorem strs_v : ∀ ns : List Str, (ns.map D.str).map D.v = ns.map V.str
  | [] => rfl
  | n :: r => by rw [List.map_cons, List.map_cons, strs_v r]; rfl
section
variable {X : Cx} {C : Ct} {W : XW} {k : Nat} {e : Expr} {u : TPA} {x : Str} {apos cpos p : Pos}
theorem dv_tindex (G : Good X C W k) {ns : List Str} (hk : KFlatN X.K X.mg x (ns.map D.str)) (ha : DAq X C W [e] u) (hg : Gl X x := by rfl) (hd : (x == ("__debug__" : Str)) = false := by decide)
    (hbase : attributeBase (.Name x p) "index" X.env (eval (.Name x p) X.env) = eval (.Name x p) X.env := by rfl)
    (hfew : ((backTo cpos (starEach [e] X.env)).all (fun x => !x.1) && (backToKw cpos (keywordEach [] X.env)).all (fun x => x.1.isSome)
      && decide ([e].length + ([] : List Keyword).length + (if ([] : List Keyword).isEmpty then 0 else 1) < 30)) = true := by rfl)
    (hline : (apos.endLine == cpos.line) = true := by rfl) (hs : starEach [e] X.env = (false, eval e X.env) :: starEach [] X.env := by rfl) (hplain : (backTo cpos (starEach [] X.env)).any (·.1) = false := by rfl) :
    DV X C W (.Call (.Attribute (.Name x p) "index" apos) [e] [] cpos) (wTIndex ns u) := by
  obtain ⟨a, o, h1, h2, h3, h4, h5, h6⟩ := hk
  rw [strs_v] at h5
  refine ⟨(pe_bm PySem.F.plainAttrs_tuple PySem.F.slot_tuple_index PySem.F.type_tuple_index mt_tup_index (pe_glob (v := .ref a) hg h1 rfl hd) ha.pa hbase hfew hline hs hplain).imp fun σ H Q ⟨M, r, E, S, hW, q⟩ =>
    ⟨.inr (.inl ⟨rfl, o, h2, h3, h4⟩), M, r, E, S, hW, ha.mo.imp (fun ys hl z vs H2 k2 S2 p2 => ?_) (fun _ z => z) q⟩, ⟨fun hq he q => ha.mo.imp (fun ys _ z => ?_) he q⟩⟩
  · split at z
    · obtain ⟨j, a1, a2, a3⟩ := z
      obtain ⟨w, rfl, r3⟩ := rq1 p2
      exact ⟨a, ns, _, j, rfl, by rw [r3.str], .inr h5, a1, a2, a3 _ _ k2 S2 (.int _)⟩
    · exact z.elim
  · split at z
    · obtain ⟨j, a1, a2, a3⟩ := z
      exact ⟨j, a1, a2, hq _ a3⟩
    · exact z
end
/-! ### slices of texts too -/
def fSlT : D → Option Int → Option Int → (D → Prop) → Prop := fun x lo hi Q => match x with
  | .str z => z.length ≤ sizeLine ∧ Q (.str (cutS z lo hi))
  | _ => fSl x lo hi Q
def wSlT (t : TP) (lo hi : TPO) : TP := fun r Q E => t r (fun x => lo r (fun a => hi r (fun b => fSlT x a b Q) E) E) E
theorem mo_slT {x : D} {a b : Option Int} {Q Q' : D → Prop} (hq : ∀ d, Q d → Q' d) (h : fSlT x a b Q) : fSlT x a b Q' := by
  unfold fSlT at h ⊢
  split at h
  · exact ⟨h.1, hq _ h.2⟩
  · exact mo_sl hq h
def rDSlT (C : Ct) : V → Option Int → Option Int → Hp → VK → Prop := fun x lo hi H Q => ∃ M d1, C.Rq M H x d1 ∧ Dom M H ∧ fSlT d1 lo hi fun d => ∀ v H', Same H H' → C.Rp M H' v d → Q v H'
section
variable {X : Cx} {C : Ct} {W : XW} {e : Expr} {t : TP} {pos : Pos}
theorem sl_T (F : Fit X C) : L2.SlR X (rDSlT C) := by
  intro pins s σ H x v vl vu lo hi sl Q I rx hs pl pu ⟨M, d1, r1, dm, h⟩
  unfold fSlT at h
  split at h
  · exact sl_str pins s σ H x v vl vu lo hi sl Q I rx hs pl pu ⟨_, r1.str, h.1, h.2 _ _ Same.refl' (.str _)⟩
  · exact sl_D F pins s σ H x v vl vu lo hi sl Q I rx hs pl pu ⟨M, d1, r1, dm, h⟩
theorem dv_sliceT {lo hi : Option Expr} {tl th : TPO} {p2 : Pos} (F : Fit X C) (he : DE X C W e t) (hl : DO X C W lo tl) (hh : DO X C W hi th) : DV X C W (.Subscript e (.Slice lo hi none p2) pos) (wSlT t tl th) := by
  refine ⟨(pe_slice (sl_T F) he.pe hl.po hh.po).imp fun σ H Q ⟨M, r, E, S, hW, q⟩ => ⟨M, r, E, S, hW, he.mo.imp (fun x z v H1 k1 S1 p1 => ⟨M, r, E, S1, hW.mono k1, hl.mo.imp (fun a y H2 k2 S2 => ⟨M, r, E, S2, hW.mono (k1.trans k2), hh.mo.imp (fun b y2 H3 k3 S3 => ?_) (fun _ z => z) y⟩) (fun _ z => z) z⟩) (fun _ z => z) q⟩,
    ⟨fun hq he' q => he.mo.imp (fun x z => hl.mo.imp (fun a y => hh.mo.imp (fun b y2 => mo_slT hq y2) he' y) he' z) he' q⟩⟩
  exact ⟨M, x, S2.rq k3 (S1.rq k2 p1), S3.dom, mo_slT (fun d w v H4 s p => w v H4 (k1.trans (k2.trans (k3.trans (Same.ex s)))) (S3.same s) p) y2⟩
end
/-! ### text * number -/
def fMulT : B2 := fun x y Q => match x, y with
  | .str z, .int n => MulOk z n ∧ Q (.str (Txt.mul z n))
  | _, _ => fMul x y Q
theorem mo_mulT : Mo2 fMulT := by
  refine ⟨fun {x y Q Q'} hq h => ?_⟩
  unfold fMulT at h ⊢
  split at h
  · exact ⟨h.1, hq _ h.2⟩
  · exact mo_mul.imp hq h
section
variable {X : Cx} {C : Ct} {W : XW} {k : Nat}
theorem op_mulT (F : Fit X C) : Op2 X C (binaryOp .Mult) fMulT := by
  refine ⟨?_, mo_mulT⟩
  intro pins s σ H x y v u Q I rx ry ⟨M, d1, d2, r1, r2, dm, h⟩
  unfold fMulT at h
  split at h
  · have e1 := r1.str
    have e2 := r2.int
    subst e1 e2
    obtain ⟨t, rfl⟩ := rx
    obtain ⟨t2, rfl⟩ := ry
    exact SB.mul h.1 fun t' kk => ⟨.str _, H, I.tok _, ⟨_, rfl⟩, h.2 _ _ Same.refl' (.str _)⟩
  · exact (op_mulD F).ok pins s σ H x y v u Q I rx ry ⟨M, d1, d2, r1, r2, dm, h⟩
end
/-! ### for c in text -/
def signsD (z : Str) : List D := z.cps.toList.map fun c => .str ⟨#[c]⟩
def iStrD (t : TP) : TPA := fun r Q E => t r (fun d => match d with
  | .str z => Q (signsD z)
  | _ => False) E
theorem mono_istr {t : TP} (h : Mono t) : MonoI (iStrD t) := ⟨fun hq he q => h.imp (fun d z => by
  cases d with
  | str ds => exact hq _ z
  | _ => exact z) he q⟩
theorem yields_str {C : Ct} {M : Addr → Prop} {H : Hp} {z : Str} : Yields C M H (Its z) (signsD z) := by
  have hl : (signsD z).length = z.cps.size := by unfold signsD; rw [List.length_map, Array.length_toList]
  refine ⟨fun i M1 H1 s hi => ?_, fun i M1 H1 x H2 s dm hi ⟨e1, c, e2, e3⟩ => ?_, fun i M1 H1 s hi => ?_⟩
  · rw [hl] at hi; exact hi
  · subst e1 e3
    refine ⟨.str ⟨#[c]⟩, ?_, Same.refl', .str _⟩
    unfold signsD
    rw [List.getElem?_map, Array.getElem?_toList, e2]
    rfl
  · rw [hl] at hi; exact hi
section
variable {X : Cx} {C : Ct} {W : XW} {tg e : Expr} {t : TP} {k : Nat}
theorem di_str (he : DV X C W e t) : DI X C W tg e (iStrD t) := by
  refine ⟨(pi_str he.pe).imp fun σ H R ⟨M, r, E, S, hW, q⟩ => ⟨M, r, E, S, hW, he.mo.imp (fun d z v H1 k1 S1 p1 => ?_) (fun _ z => z) q⟩, mono_istr he.mo⟩
  cases d with
  | str zz => cases p1; exact ⟨zz, rfl, z _ H1 k1 S1 yields_str⟩
  | _ => exact z.elim
end
/-! ### f() -/
section
variable {X : Cx} {C : Ct} {W : XW} {k j : Nat} {x : Str} {p pos : Pos} {sp : SpD}
theorem dv_call0 (G : Good X C W k) (F : FnD X.prog X.w X.K X.mg X.base j x 0 sp) (hj : j ≤ k := by decide) (hg : Gl X x := by rfl) (hdb : (x == ("__debug__" : Str)) = false := by decide) : DV X C W (.Call (.Name x p) [] [] pos) (wCall sp wNil) := by
  refine ⟨?_, mono_call monoA_nil F.mo⟩
  obtain ⟨f, fd, ps, hF, hm, hk, hb⟩ := F.ex
  refine ⟨fun pins s σ H Q I ⟨M, r, E, S, hW, q⟩ => ?_⟩
  refine wpAny_Call_Name_kw (ld_glob I hg hm ?_ hdb)
  refine PySem.W.callWith_K0 I.kIn hk (run_fnS (us := []) hF (G.room.mono hj) hb (G.pass σ) I .nil ?_)
  have fit := G.fit
  obtain ⟨K, P, w, T, M0, H0⟩ := C
  obtain ⟨a, b, c⟩ := fit
  cases a; cases b; cases c
  exact ⟨M, [], S.dom, .nil, F.mo.imp (fun d y v H2 s p2 => y v H2 (Same.ex s) (S.same s) p2) (fun c y H2 s => hW c H2 (Same.ex s) (S.same s) y) q⟩
end
end HC
/-! TX1: words joined and split; items of regulators as words. -/
namespace HC
open PySem PySem.Spec PyProof.Rows L2
def cds (z : Str) : List Nat := z.cps.toList
theorem cds_inj {a b : Str} (h : cds a = cds b) : a = b := Str.ext' (Array.toList_inj.mp h)
theorem cds_app (a b : Str) : cds (a ++ b) = cds a ++ cds b := by
  show (a.cps ++ b.cps).toList = _
  rw [Array.toList_append]
  rfl
theorem join_eq (y : Str) (parts : List Str) : Txt.join y parts = Str.join y parts := StrLaws.glued_eq_join y parts
theorem cds_len (a : Str) : (cds a).length = a.length := by unfold cds; rw [Array.length_toList]; rfl
/-- a joined text's codes -/
theorem cds_join1 (s x y : Str) (r : List Str) : cds (Txt.join s (x :: y :: r)) = cds x ++ cds s ++ cds (Txt.join s (y :: r)) := by
  rw [join_eq, join_eq]
  show cds (x ++ s ++ Str.join s (y :: r)) = _
  rw [cds_app, cds_app]
theorem cut_free {c : Nat} : ∀ {a b x y : List Nat}, c ∉ a → c ∉ b → a ++ c :: x = b ++ c :: y → a = b ∧ x = y
  | [], [], x, y, _, _, h => by simpa using h
  | [], k :: b, x, y, _, hb, h => by
    simp only [List.nil_append, List.cons_append, List.cons.injEq] at h
    exact absurd (by rw [h.1]; exact List.mem_cons_self) hb
  | k :: a, [], x, y, ha, _, h => by
    simp only [List.nil_append, List.cons_append, List.cons.injEq] at h
    exact absurd (by rw [h.1]; exact List.mem_cons_self) ha
  | k :: a, l :: b, x, y, ha, hb, h => by
    simp only [List.cons_append, List.cons.injEq] at h
    obtain ⟨rfl, h⟩ := h
    obtain ⟨rfl, rfl⟩ := cut_free (fun z => ha (List.mem_cons_of_mem _ z)) (fun z => hb (List.mem_cons_of_mem _ z)) h
    exact ⟨rfl, rfl⟩
/-- words without the sign between them are told by their joined text -/
theorem join_inj {c : Nat} : ∀ {xs ys : List Str}, xs ≠ [] → ys ≠ [] → (∀ x ∈ xs, c ∉ cds x) → (∀ y ∈ ys, c ∉ cds y) → Txt.join ⟨#[c]⟩ xs = Txt.join ⟨#[c]⟩ ys → xs = ys
  | [], _, h, _, _, _, _ => absurd rfl h
  | _, [], _, h, _, _, _ => absurd rfl h
  | [x], [y], _, _, _, _, h => by
    rw [join_eq, join_eq] at h
    exact congrArg (fun z => [z]) h
  | [x], y :: y2 :: r, _, _, hx, _, h => by
    have h' := congrArg cds h
    rw [cds_join1] at h'
    rw [join_eq] at h'
    refine absurd ?_ (hx x List.mem_cons_self)
    show c ∈ cds x
    have e : cds x = cds y ++ [c] ++ cds (Txt.join ⟨#[c]⟩ (y2 :: r)) := h'
    rw [e]
    simp
  | x :: x2 :: r, [y], _, _, _, hy, h => by
    have h' := congrArg cds h
    rw [cds_join1] at h'
    rw [join_eq ⟨#[c]⟩ [y]] at h'
    refine absurd ?_ (hy y List.mem_cons_self)
    have e : cds x ++ [c] ++ cds (Txt.join ⟨#[c]⟩ (x2 :: r)) = cds y := h'
    rw [← e]
    simp
  | x :: x2 :: r, y :: y2 :: q, _, _, hx, hy, h => by
    have h' := congrArg cds h
    rw [cds_join1, cds_join1] at h'
    have e : cds x ++ c :: cds (Txt.join ⟨#[c]⟩ (x2 :: r)) = cds y ++ c :: cds (Txt.join ⟨#[c]⟩ (y2 :: q)) := by
      have : cds x ++ [c] ++ cds (Txt.join ⟨#[c]⟩ (x2 :: r)) = cds y ++ [c] ++ cds (Txt.join ⟨#[c]⟩ (y2 :: q)) := h'
      simpa using this
    obtain ⟨e1, e2⟩ := cut_free (hx x List.mem_cons_self) (hy y List.mem_cons_self) e
    rw [cds_inj e1, join_inj (by simp) (by simp) (fun z hz => hx z (List.mem_cons_of_mem _ hz)) (fun z hz => hy z (List.mem_cons_of_mem _ hz)) (cds_inj e2)]
theorem join_split' (z : Str) (c : Nat) : Txt.join ⟨#[c]⟩ (Txt.split z ⟨#[c]⟩) = z := by rw [join_eq]; exact StrLaws.join_split z _
theorem split_ne (z y : Str) : Txt.split z y ≠ [] := fun h => by
  have := split_pos z y
  rw [h] at this
  cases this
/-- words joined, then split -/
theorem split_join {c : Nat} {ws : List Str} (ne : ws ≠ []) (h : ∀ w ∈ ws, c ∉ cds w) : Txt.split (Txt.join ⟨#[c]⟩ ws) ⟨#[c]⟩ = ws :=
  join_inj (split_ne _ _) ne (fun x hx => StrLaws.split_free _ c x hx) h (join_split' _ c)
/-! ### items -/
def ns_HEATS : List Str := ["0", "1", "2", "3", "4", "5", "6", "7", "8", "9", "10"]
def ds_HEATS : List D := ns_HEATS.map D.str
def d_HEATS : D := .tuple ds_HEATS
/-- the first place of a word -/
def idxS (w : Str) : List Str → Option Nat
  | [] => none
  | x :: r => if x = w then some 0 else (idxS w r).map (· + 1)
theorem idxS_some {w : Str} : ∀ {l : List Str} {j : Nat}, idxS w l = some j → l[j]? = some w ∧ ∀ m, m < j → l[m]? ≠ some w
  | x :: r, j, h => by
    unfold idxS at h
    split at h
    · rename_i e
      cases h
      exact ⟨by rw [← e]; rfl, fun m hm => absurd hm (Nat.not_lt_zero _)⟩
    · rename_i e
      obtain ⟨i, h1, rfl⟩ := Option.map_eq_some_iff.mp h
      obtain ⟨h2, h3⟩ := idxS_some h1
      refine ⟨by simpa using h2, fun m hm => ?_⟩
      cases m with
      | zero => simpa using e
      | succ m => simpa using h3 m (by omega)
theorem idxS_none {w : Str} : ∀ {l : List Str}, idxS w l = none ↔ w ∉ l
  | [] => by simp [idxS]
  | x :: r => by
    unfold idxS
    split
    · rename_i e
      subst e
      simp
    · rename_i e
      rw [Option.map_eq_none_iff, idxS_none, List.mem_cons, not_or]
      exact ⟨fun h => ⟨fun z => e z.symm, h⟩, fun h => h.2⟩
def itemS (w : Str) : D := match idxS w ns_HEATS with
  | some j => .int (j : Int)
  | none => .str w
/-- an item as a word -/
def wordD : D → Str
  | .int i => toString i
  | .str z => z
  | _ => Str.empty
theorem heats_at : ∀ j : Nat, j < 11 → ns_HEATS[j]? = some ((toString (j : Int) : String) : Str) := by decide
theorem idx_lt {w : Str} {j : Nat} (h : idxS w ns_HEATS = some j) : j < 11 := (List.getElem?_eq_some_iff.mp (idxS_some h).1).1
theorem word_item (w : Str) : wordD (itemS w) = w := by
  unfold itemS
  cases h : idxS w ns_HEATS with
  | none => rfl
  | some j =>
    have := (idxS_some h).1
    rw [heats_at j (idx_lt h)] at this
    exact Option.some.inj this
theorem item_int {i : Int} (h0 : 0 ≤ i) (h1 : i ≤ 10) : itemS ((toString i : String) : Str) = .int i := by
  have : ∀ k : Nat, k < 11 → idxS ((toString (k : Int) : String) : Str) ns_HEATS = some k := by decide
  have e : i = ((i.toNat : Nat) : Int) := by omega
  unfold itemS
  rw [e, this i.toNat (by omega)]
theorem item_kd (k : Kd) : itemS k.nm = .str k.nm := by
  have : idxS k.nm ns_HEATS = none := by cases k <;> decide
  unfold itemS
  rw [this]
def itemsD (g : Rg) : List D := .str g.kd.nm :: .int g.lo :: .int g.hi :: if g.kd.four = true then [.int g.tk] else []
theorem enc_items (g : Rg) : g.enc = .tuple (itemsD g) := rfl
/-- a regulator's text -/
def fmtR (g : Rg) : Str := Txt.join " " ((itemsD g).map wordD)
theorem sp_is : (" " : Str) = ⟨#[32]⟩ := by decide
theorem dec_free {i : Int} (h0 : 0 ≤ i) (h1 : i ≤ 10) : 32 ∉ cds ((toString i : String) : Str) := by
  have : ∀ k : Nat, k < 11 → 32 ∉ cds ((toString (k : Int) : String) : Str) := by decide
  have e : i = ((i.toNat : Nat) : Int) := by omega
  rw [e]
  exact this i.toNat (by omega)
theorem items_free {g : Rg} (h : g.Ok 10) : ∀ w ∈ (itemsD g).map wordD, 32 ∉ cds w := by
  have kf : 32 ∉ cds g.kd.nm := by cases g.kd <;> decide
  have l0 := h.l0
  have lh := h.lh
  have ht := h.ht
  intro w hw
  unfold itemsD at hw
  simp only [List.map_cons, List.mem_cons] at hw
  rcases hw with rfl | rfl | rfl | hw
  · exact kf
  · exact dec_free l0 (by omega)
  · exact dec_free (by omega) ht
  · cases hf : g.kd.four with
    | true =>
      rw [hf, if_pos rfl] at hw
      simp only [List.map_cons, List.map_nil, List.mem_cons, List.mem_nil_iff, or_false, List.not_mem_nil] at hw
      subst hw
      have := h.k2 hf
      have := h.k3 hf
      exact dec_free (by omega) (by omega)
    | false =>
      rw [hf, if_neg (by decide)] at hw
      cases hw
theorem items_back {g : Rg} (h : g.Ok 10) : ((itemsD g).map wordD).map itemS = itemsD g := by
  have l0 := h.l0
  have lh := h.lh
  have ht := h.ht
  have e1 : itemS (wordD (.str g.kd.nm)) = .str g.kd.nm := item_kd _
  have e2 : itemS (wordD (.int g.lo)) = .int g.lo := item_int l0 (by omega)
  have e3 : itemS (wordD (.int g.hi)) = .int g.hi := item_int (by omega) ht
  unfold itemsD
  cases hf : g.kd.four with
  | true =>
    have := h.k2 hf
    have := h.k3 hf
    have e4 : itemS (wordD (.int g.tk)) = .int g.tk := item_int (by omega) (by omega)
    simp only [if_true, List.map_cons, List.map_nil, e1, e2, e3, e4]
  | false => simp only [Bool.false_eq_true, if_false, List.map_cons, List.map_nil, e1, e2, e3]
theorem split_fmt {g : Rg} (h : g.Ok 10) : Txt.split (fmtR g) " " = (itemsD g).map wordD := by
  unfold fmtR
  rw [sp_is]
  exact split_join (by unfold itemsD; simp) (items_free h)
/-- what is read -/
def readR (z : Str) : List D := (Txt.split z " ").map itemS
theorem read_fmt {g : Rg} (h : g.Ok 10) : readR (fmtR g) = itemsD g := by
  unfold readR
  rw [split_fmt h, items_back h]
theorem fmt_read {g : Rg} {z : Str} (e : readR z = itemsD g) : fmtR g = z := by
  unfold fmtR
  rw [← e]
  unfold readR
  rw [List.map_map]
  have : (Txt.split z " ").map (wordD ∘ itemS) = Txt.split z " " := by
    conv => rhs; rw [← List.map_id (Txt.split z " ")]
    exact List.map_congr_left fun w _ => word_item w
  rw [this, sp_is]
  exact join_split' z 32
end HC
/-! TX2: rows as texts; the promises. -/
namespace HC
open PySem PySem.Spec PyProof.Rows L2
def fmtW (ws : List Int) : Str := Txt.join "" (ws.map fun w => ((toString w : String) : Str))
theorem cds_join0 : ∀ xs : List Str, cds (Txt.join "" xs) = (xs.map cds).flatten
  | [] => by rw [join_eq]; rfl
  | [x] => by rw [join_eq]; show cds x = _; simp
  | x :: y :: r => by
    rw [cds_join1, cds_join0 (y :: r)]
    show cds x ++ [] ++ _ = _
    simp
theorem cds_dec {w : Int} (h1 : 1 ≤ w) (h3 : w ≤ 3) : cds ((toString w : String) : Str) = [(w + 48).toNat] := by
  have : ∀ k : Nat, 1 ≤ k → k ≤ 3 → cds ((toString (k : Int) : String) : Str) = [k + 48] := by
    intro k a b
    have : k = 1 ∨ k = 2 ∨ k = 3 := by omega
    rcases this with rfl | rfl | rfl <;> decide
  have e : w = ((w.toNat : Nat) : Int) := by omega
  rw [e, this w.toNat (by omega) (by omega)]
  simp only [List.cons.injEq, and_true]
  omega
theorem cds_fmtW {ws : List Int} (h : ∀ w ∈ ws, 1 ≤ w ∧ w ≤ 3) : cds (fmtW ws) = ws.map fun w => (w + 48).toNat := by
  unfold fmtW
  rw [cds_join0, List.map_map]
  induction ws with
  | nil => rfl
  | cons w ws ih =>
    rw [List.map_cons, List.flatten_cons, List.map_cons, ih fun x hx => h x (List.mem_cons_of_mem _ hx)]
    have := h w List.mem_cons_self
    rw [Function.comp_apply, cds_dec this.1 this.2]
    rfl
def okC (c : Nat) : Bool := decide (49 ≤ c) && decide (c ≤ 51)
def okW (z : Str) : Bool := (cds z).all okC && decide (z.length ≤ 60)
def readW (z : Str) : List Int := (cds z).map fun (c : Nat) => (c : Int) - 48
theorem okC_iff {c : Nat} : okC c = true ↔ 49 ≤ c ∧ c ≤ 51 := by unfold okC; simp
theorem readW_dg {z : Str} (h : (cds z).all okC = true) : ∀ w ∈ readW z, 1 ≤ w ∧ w ≤ 3 := by
  intro w hw
  obtain ⟨c, hc, rfl⟩ := List.mem_map.mp hw
  have := okC_iff.mp (List.all_eq_true.mp h c hc)
  omega
theorem readW_len (z : Str) : (readW z).length = z.length := by unfold readW; rw [List.length_map, cds_len]
theorem ok_fmtW {ws : List Int} (h : ∀ w ∈ ws, 1 ≤ w ∧ w ≤ 3) (hl : ws.length ≤ 60) : okW (fmtW ws) = true := by
  unfold okW
  rw [← cds_len, cds_fmtW h, List.length_map, decide_eq_true hl, Bool.and_true, List.all_eq_true]
  intro c hc
  obtain ⟨w, hw, rfl⟩ := List.mem_map.mp hc
  have := h w hw
  exact okC_iff.mpr (by omega)
theorem read_fmtW {ws : List Int} (h : ∀ w ∈ ws, 1 ≤ w ∧ w ≤ 3) : readW (fmtW ws) = ws := by
  unfold readW
  rw [cds_fmtW h, List.map_map]
  conv => rhs; rw [← List.map_id ws]
  refine List.map_congr_left fun w hw => ?_
  have := h w hw
  show (((w + 48).toNat : Nat) : Int) - 48 = w
  omega
theorem fmt_readW {z : Str} (h : (cds z).all okC = true) : fmtW (readW z) = z := by
  refine cds_inj ?_
  rw [cds_fmtW (readW_dg h)]
  unfold readW
  rw [List.map_map]
  conv => rhs; rw [← List.map_id (cds z)]
  refine List.map_congr_left fun c hc => ?_
  have := okC_iff.mp (List.all_eq_true.mp h c hc)
  show (((c : Int) - 48) + 48).toNat = c
  omega
/-! ### the promises -/
def outT (x : Xc) : Option D → Ex
  | some d => .ok d
  | none => .error x.badText
def parR : D → Option D
  | .str z => if isForF (.tuple (readR z)) 10 = true then some (.tuple (readR z)) else none
  | _ => none
def parW : D → Option D
  | .str z => if okW z = true then some (encIs (readW z)) else none
  | _ => none
def fitT (d : D) : Prop := d.plain = true ∧ ∀ z, d = .str z → z.length + 2 ≤ sizeLine
def sp_check_text (x : Xc) : SpD := spEx (fun a : D => [a]) (fun a => a.plain = true) (fun a => if isStrD a = true then .ok .none else .error x.badText)
def sp_item_in : SpD := spOf (fun a : Str => [.str a]) (fun _ => True) (fun a => itemS a)
def sp_parse_regulator (x : Xc) : SpD := spEx (fun a : D => [a]) fitT (fun a => outT x (parR a))
def sp_parse_row (x : Xc) : SpD := spEx (fun a : D => [a]) fitT (fun a => outT x (parW a))
def sp_format_regulator (x : Xc) : SpD := spEx (fun a : D => [a]) (fun a => a.plain = true) (fun a => if isForF a 10 = true then .ok (.str (fmtR (rgOf a))) else .error x.badRegulator)
def sp_format_row (x : Xc) : SpD := spEx (fun a : D => [a]) (fun a => a.plain = true) (fun a => onRow x a fun ws => .ok (.str (fmtW ws)))
theorem mo_check_text (x : Xc) : MonoSp 1 (sp_check_text x) := mo_spEx fun _ => rfl
theorem mo_item_in : MonoSp 1 sp_item_in := mo_spOf fun _ => rfl
theorem mo_parse_regulator (x : Xc) : MonoSp 1 (sp_parse_regulator x) := mo_spEx fun _ => rfl
theorem mo_parse_row (x : Xc) : MonoSp 1 (sp_parse_row x) := mo_spEx fun _ => rfl
theorem mo_format_regulator (x : Xc) : MonoSp 1 (sp_format_regulator x) := mo_spEx fun _ => rfl
theorem mo_format_row (x : Xc) : MonoSp 1 (sp_format_row x) := mo_spEx fun _ => rfl
end HC
/-! HD8: printed denotations. -/
namespace HC
open PySem PySem.Spec PyProof.Rows L2
def t_format_regulator (x : Xc) : TSD :=
  sSeq (sExpr (wCall (sp_plain_name x) (wCons (wVar 0) wNil)))
    (sRet (wMs gJoin (wC (.str " ")) (wCons (wComp [1] (iSeq (wVar 0)) (gN 1) bYes (wB gStr (wCons (wPeek 1) wNil))) wNil)))
def t_format_row (x : Xc) : TSD :=
  sSeq (sExpr (wCall (sp_check_row x) (wCons (wVar 0) wNil)))
    (sRet (wMs gJoin (wC (.str "")) (wCons (wComp [1] (iSeq (wVar 0)) (gN 1) bYes (wB gStr (wCons (wPeek 1) wNil))) wNil)))
def t_check_text (x : Xc) : TSD :=
  sIf (bNot (bTest (wIsi "str" (wPeek 0)))) (sRaise x.badText) sNil
def t_item_in : TSD :=
  sRet (wIf (bTest (wOp2 fIn (wPeek 0) (wC d_HEATS))) (wTIndex ns_HEATS (wCons (wPeek 0) wNil)) (wVar 0))
def t_parse_regulator (x : Xc) : TSD :=
  sSeq (sExpr (wCall (sp_check_text x) (wCons (wVar 0) wNil)))
    (sSeq (sAsg 1 (xVal (wB gTuple (wCons (wComp [2] (iSeq (wMs gSplit (wPeek 0) (wCons (wC (.str " ")) wNil))) (gN 2) bYes (wCall sp_item_in (wCons (wVar 2) wNil))) wNil))))
    (sSeq (sIf (bNot (bTest (wCall sp_is_for (wCons (wVar 1) (wCons (wC (.int 10)) wNil))))) (sRaise x.badText) sNil)
    (sRet (wVar 1))))
def t_parse_row (x : Xc) : TSD :=
  sSeq (sExpr (wCall (sp_check_text x) (wCons (wVar 0) wNil)))
    (sSeq (sIf (bNot (bTest (wB gAll (wCons (wComp [2] (iStrD (wVar 0)) (gN 2) bYes (wOp2 fIn (wPeek 2) (wC (.str "123")))) wNil)))) (sRaise x.badText) sNil)
    (sSeq (sAsg 1 (xVal (wComp [2] (iStrD (wVar 0)) (gN 2) bYes (wB gInt (wCons (wPeek 2) wNil)))))
    (sSeq (sIf (bNot (bTest (wCall sp_is_row (wCons (wVar 1) wNil)))) (sRaise x.badText) sNil)
    (sRet (wVar 1)))))
end HC
/-! TX3: texts: the functions. -/
namespace HC
open PySem PySem.Spec PyProof.Rows L2
local macro_rules | `(tactic| walk_at "ds") => `(tactic| try simp only [endD, startD, startT, endLaw, startLaw, List.map_cons, List.map_nil, List.length_cons, List.length_nil, List.replicate, List.cons_append, List.nil_append, Nat.reduceSub, Nat.reduceAdd, sSeq, sRet, sIf, sNil, sAsg, sUnp, sExpr, sPar2, sPar3, xCons, xNil, xVal, xOwn, bTest, bNot, bAnd, bOr, wVar, wPeek, slot, wC, wOp2, wB, wM, wCons, wNil, wTup, wLst, wIf, wAnd, wOr, wNot, wNeg, wCall, wCallT, wSl, wPart, wNoPart, List.set, ex1, gT_t, gT_st, gT_pr, gC_c, gN_c, gNil_c, sRaise, wChain, sFrz, frz, wIsi, wTabIn, wTabAt, sAug, wipeD, En.lp, loopW_nil, d_WEATHERS, ds_WEATHERS, wDisp1, wNewT, wComp, iSeq, iRange, gList_l, sFor, Bool.false_eq_true, if_false, if_true,
  fAdd_i, fAdd_s, fAdd_l, fAdd_t, fAddL_l, fSub_i, fLt_i, fLe_i, fGt_i, fGe_i, fEq_i, fNe_i, fIs_b, fIsN_b, fIs_nn, fIs_in, fIs_ln, fIs_tn, fIsN_nn, fIsN_in, fIsN_ln, fIsN_tn, gMin_2, gMax_2, gLen_l, gLen_t, fIx_rm0, fIx_rm1, fIx_rm2, fIx_st0, fIx_st1, fIx_st2, fIx_rg0, fIx_rg1, fIx_rg2, fSl_rg, fEq_gap, fEq_stay, fEq_late, fEq_look, fEq_lean])
theorem deq_str (a b : Str) : deq (.str a) (.str b) = decide (a = b) := by
  show (a == b) = _
  rw [Bool.beq_eq_decide_eq]
theorem enc_str : Enc D.str := fun a b => by rw [deq_str]; simp
theorem plains_iff : ∀ {ds : List D}, (∀ d ∈ ds, d.plain = true) → D.plains ds = true
  | [], _ => rfl
  | d :: ds, h => by
    show (d.plain && D.plains ds) = true
    rw [h d List.mem_cons_self, plains_iff fun x hx => h x (List.mem_cons_of_mem _ hx)]
    rfl
theorem item_plain (w : Str) : (itemS w).plain = true := by
  unfold itemS
  cases idxS w ns_HEATS <;> rfl
theorem readR_plain (z : Str) : (D.tuple (readR z)).plain = true := plains_iff fun d hd => by
  obtain ⟨w, _, rfl⟩ := List.mem_map.mp hd
  exact item_plain w
section
variable {Q : D → Prop} {E : Addr → Prop}
theorem fitT.pl {d : D} (h : fitT d) : d.plain = true := h.1
theorem in_item {z : Str} (q : Q (itemS z)) : sp_item_in [.str z] Q E := ⟨z, rfl, trivial, q⟩
theorem sem_check_text (x : Xc) : ∀ ds Q E, sp_check_text x ds Q E → t_check_text x (endD Q E) (startD 1 ds) := by
  rintro _ Q E ⟨a, rfl, hp, q⟩
  unfold t_check_text
  walk_at "ds"
  rw [isT_str hp]
  refine ⟨_, rfl, ?_⟩
  replace q : outE Q E (if isStrD a = true then .ok .none else .error x.badText) := q
  cases h : isStrD a with
  | true => rw [h] at q; exact q
  | false => rw [h] at q; exact q
theorem on_text {x : Xc} {a : D} {Q1 : D → Prop} {o : Str → Option D} (h : a.plain = true) (q : outE Q E (match a with | .str z => outT x (o z) | _ => .error x.badText)) (go : ∀ z, a = .str z → outE Q E (outT x (o z)) → Q1 .none) : sp_check_text x [a] Q1 E := by
  refine ⟨a, rfl, h, ?_⟩
  cases a with
  | str z => exact go z rfl q
  | _ => exact q
theorem sem_item_in : ∀ ds Q E, sp_item_in ds Q E → t_item_in (endD Q E) (startD 1 ds) := by
  rintro _ Q E ⟨z, rfl, _, q⟩
  replace q : Q (itemS z) := q
  unfold t_item_in wTIndex
  walk_at "ds"
  show fIn (.str z) (.tuple ds_HEATS) _
  rw [fIn_t]
  refine ⟨⟨rfl, rfl⟩, ?_⟩
  have e : dIn (.str z) ds_HEATS = decide (z ∈ ns_HEATS) := dIn_enc enc_str z ns_HEATS
  rw [e]
  unfold itemS at q
  cases h : idxS z ns_HEATS with
  | some j =>
    rw [h] at q
    have hm : z ∈ ns_HEATS := by
      cases Classical.em (z ∈ ns_HEATS) with
      | inl h => exact h
      | inr n => rw [idxS_none.mpr n] at h; cases h
    exact ite_t (decide_eq_true hm) ⟨j, (idxS_some h).1, (idxS_some h).2, q⟩
  | none =>
    rw [h] at q
    exact ite_f (decide_eq_false (idxS_none.mp h)) q
theorem sem_parse_regulator (x : Xc) : ∀ ds Q E, sp_parse_regulator x ds Q E → t_parse_regulator x (endD Q E) (startD 3 ds) := by
  rintro _ Q E ⟨a, rfl, hp, q⟩
  unfold t_parse_regulator
  refine seq_g fun n1 h1 => ?_
  walk_at "ds"
  refine on_text (o := fun z => parR (.str z)) (Q := Q) hp.pl (by cases a <;> exact q) fun z ea q1 => h1 _ ?_
  clear q
  subst ea
  have hz := hp.2 z rfl
  refine seq_g fun n2 h2 => ?_
  unfold wMs
  walk_at "ds"
  refine ⟨rfl, hz, ?_⟩
  refine ⟨by rw [List.length_map]; have := split_le z (" " : Str); omega, ?_⟩
  refine comp_enc D.str itemS _ (fun w _ => ⟨_, rfl, fun Q' q' => ?_⟩) ?_
  · walk_at "ds"
    exact in_item q'
  rw [gTuple_l]
  refine h2 _ ?_
  refine seq_g fun n3 h3 => ?_
  walk_at "ds"
  show sp_is_for [.tuple (readR z), .int 10] _ _
  refine in_is_for (readR_plain z) ?_
  replace q1 : outE Q E (outT x (if isForF (.tuple (readR z)) 10 = true then some (.tuple (readR z)) else none)) := q1
  cases hf : isForF (.tuple (readR z)) 10 with
  | true =>
    rw [hf] at q1
    exact h3 _ q1
  | false =>
    rw [hf] at q1
    exact q1
theorem sign_in {c : Nat} (q : Q (.bool (okC c))) : fIn (.str ⟨#[c]⟩) (.str "123") Q := by
  refine ⟨c, rfl, ?_⟩
  have e : decide (c ∈ ("123" : Str).cps.toList) = okC c := by
    rw [show ("123" : Str).cps.toList = [49, 50, 51] by decide]
    rw [Bool.eq_iff_iff, decide_eq_true_iff, okC_iff]
    simp only [List.mem_cons, List.mem_nil_iff, or_false, List.not_mem_nil]
    omega
  rw [e]
  exact q
theorem sign_int {c : Nat} (h : okC c = true) (q : Q (.int ((c : Int) - 48))) : gInt [.str ⟨#[c]⟩] Q := by
  have hc := okC_iff.mp h
  have : c = 49 ∨ c = 50 ∨ c = 51 := by omega
  rcases this with rfl | rfl | rfl
  · exact ⟨1, by decide +kernel, by decide, q⟩
  · exact ⟨2, by decide +kernel, by decide, q⟩
  · exact ⟨3, by decide +kernel, by decide, q⟩
theorem sem_parse_row (x : Xc) : ∀ ds Q E, sp_parse_row x ds Q E → t_parse_row x (endD Q E) (startD 3 ds) := by
  rintro _ Q E ⟨a, rfl, hp, q⟩
  unfold t_parse_row
  refine seq_g fun n1 h1 => ?_
  walk_at "ds"
  refine on_text (o := fun z => parW (.str z)) (Q := Q) hp.pl (by cases a <;> exact q) fun z ea q1 => h1 _ ?_
  clear q
  subst ea
  have hz := hp.2 z rfl
  have hl : (signsD z).length ≤ sizeLine := by unfold signsD; rw [List.length_map, show z.cps.toList.length = z.length from cds_len z]; omega
  replace q1 : outE Q E (outT x (if okW z = true then some (encIs (readW z)) else none)) := q1
  refine seq_g fun n2 h2 => ?_
  unfold iStrD
  walk_at "ds"
  refine ⟨hl, ?_⟩
  refine comp_enc (fun c => D.str ⟨#[c]⟩) (fun c => .bool (okC c)) (cds z) (fun c _ => ⟨_, rfl, fun Q' q' => ?_⟩) ?_
  · walk_at "ds"
    exact sign_in q'
  have em : (cds z).map (fun c => D.bool (okC c)) = ((cds z).map okC).map D.bool := by rw [List.map_map]; rfl
  rw [em]
  refine ⟨_, bools_map _, ?_⟩
  have ea : ((cds z).map okC).all id = (cds z).all okC := by rw [List.all_map]; rfl
  rw [ea]
  cases hall : (cds z).all okC with
  | false =>
    have : okW z = false := by unfold okW; rw [hall]; rfl
    rw [this] at q1
    exact q1
  | true =>
    refine h2 _ ?_
    refine seq_g fun n3 h3 => ?_
    walk_at "ds"
    refine ⟨hl, ?_⟩
    refine comp_enc (fun c => D.str ⟨#[c]⟩) (fun (c : Nat) => .int ((c : Int) - 48)) (cds z) (fun c hc => ⟨_, rfl, fun Q' q' => ?_⟩) (h3 _ ?_)
    · walk_at "ds"
      exact sign_int (List.all_eq_true.mp hall c hc) q'
    have em2 : (cds z).map (fun (c : Nat) => D.int ((c : Int) - 48)) = (readW z).map D.int := by unfold readW; rw [List.map_map]; rfl
    rw [em2]
    refine seq_g fun n4 h4 => ?_
    walk_at "ds"
    show sp_is_row [encIs (readW z)] _ _
    refine in_is_row pl_is ?_
    by_cases hl60 : z.length ≤ 60
    · have : okW z = true := by unfold okW; rw [hall, decide_eq_true hl60]; rfl
      rw [this] at q1
      rw [(row_enc (by rw [readW_len]; exact hl60) (readW_dg hall)).1]
      exact h4 _ q1
    · have : okW z = false := by unfold okW; rw [hall, decide_eq_false hl60]; rfl
      rw [this] at q1
      have hr : isRowF (encIs (readW z)) = false := by
        cases e : isRowF (encIs (readW z)) with
        | false => rfl
        | true =>
          obtain ⟨ws, e1, e2, _⟩ := isRowF_is e
          have e3 : (readW z).map D.int = ws.map D.int := by injection e1
          have e4 := congrArg List.length e3
          rw [List.length_map, List.length_map, readW_len] at e4
          omega
      rw [hr]
      exact q1
theorem word_str {d : D} (h : ∃ g : Rg, g.Ok 10 ∧ d ∈ itemsD g) (q : Q (.str (wordD d))) : gStr [d] Q := by
  obtain ⟨g, ok, hd⟩ := h
  have l0 := ok.l0
  have lh := ok.lh
  have ht := ok.ht
  have small : ∀ i : Int, 0 ≤ i → i ≤ 10 → i.natAbs.log2 < 1920 := fun i a b => by
    have : ∀ k : Nat, k < 11 → k.log2 < 1920 := by decide
    exact this _ (by omega)
  unfold itemsD at hd
  simp only [List.mem_cons] at hd
  rcases hd with rfl | rfl | rfl | hd
  · exact q
  · exact ⟨small _ l0 (by omega), q⟩
  · exact ⟨small _ (by omega) ht, q⟩
  · cases hf : g.kd.four with
    | true =>
      rw [hf, if_pos rfl] at hd
      simp only [List.mem_cons, List.mem_nil_iff, or_false, List.not_mem_nil] at hd
      subst hd
      have := ok.k2 hf
      have := ok.k3 hf
      exact ⟨small _ (by omega) (by omega), q⟩
    | false =>
      rw [hf, if_neg (by decide)] at hd
      cases hd
theorem word_len {d : D} (h : ∃ g : Rg, g.Ok 10 ∧ d ∈ itemsD g) : (wordD d).length ≤ 4 := by
  obtain ⟨g, ok, hd⟩ := h
  have l0 := ok.l0
  have lh := ok.lh
  have ht := ok.ht
  have small : ∀ i : Int, 0 ≤ i → i ≤ 10 → (wordD (.int i)).length ≤ 4 := fun i a b => by
    have : ∀ k : Nat, k < 11 → (wordD (.int (k : Int))).length ≤ 4 := by decide
    have e : i = ((i.toNat : Nat) : Int) := by omega
    rw [e]
    exact this _ (by omega)
  unfold itemsD at hd
  simp only [List.mem_cons] at hd
  rcases hd with rfl | rfl | rfl | hd
  · show g.kd.nm.length ≤ 4
    cases g.kd <;> decide
  · exact small _ l0 (by omega)
  · exact small _ (by omega) ht
  · cases hf : g.kd.four with
    | true =>
      rw [hf, if_pos rfl] at hd
      simp only [List.mem_cons, List.mem_nil_iff, or_false, List.not_mem_nil] at hd
      subst hd
      have := ok.k2 hf
      have := ok.k3 hf
      exact small _ (by omega) (by omega)
    | false =>
      rw [hf, if_neg (by decide)] at hd
      cases hd
theorem sum_le {l : List Nat} {m : Nat} (h : ∀ x ∈ l, x ≤ m) : l.sum ≤ l.length * m := by
  induction l with
  | nil => simp
  | cons a l ih =>
    rw [List.sum_cons, List.length_cons, Nat.add_mul, Nat.one_mul]
    have := h a List.mem_cons_self
    have := ih fun x hx => h x (List.mem_cons_of_mem _ hx)
    omega
theorem items_len (g : Rg) : (itemsD g).length ≤ 4 := by
  unfold itemsD
  cases g.kd.four <;> simp
/-- a regulator's words, joined -/
theorem join_items {g : Rg} (ok : g.Ok 10) {te : TP} {r : Env} {gt : GD} (h : ∀ d ∈ itemsD g, ∃ r1, gt d r = some r1 ∧ ∀ Q' : D → Prop, gStr [d] Q' → te r1 Q' E0') (q : Q (.str (fmtR g))) :
    (itemsD g).length ≤ sizeLine ∧ compW gt bYes te r (itemsD g) fun ys => gJoin " " [.list ys] Q := by
  have il := items_len g
  refine ⟨le1000 (by omega), ?_⟩
  refine comp_map (fun d => .str (wordD d)) (itemsD g) (fun d hd => ?_) ?_
  · obtain ⟨r1, e1, h1⟩ := h d hd
    exact ⟨r1, e1, fun Q' q' => h1 Q' (word_str ⟨g, ok, hd⟩ q')⟩
  · have em : (itemsD g).map (fun d => D.str (wordD d)) = ((itemsD g).map wordD).map D.str := by rw [List.map_map]; rfl
    rw [em]
    refine ⟨_, strs_map _, ?_, q⟩
    rw [List.map_map, List.length_map]
    have h1 := sum_le (l := (itemsD g).map ((·.length) ∘ wordD)) (m := 4) fun x hx => by
      obtain ⟨d, hd, rfl⟩ := List.mem_map.mp hx
      exact word_len ⟨g, ok, hd⟩
    rw [List.length_map] at h1
    have e : (" " : Str).length = 1 := by decide
    rw [e]
    omega
/-- a row's signs, joined -/
theorem join_row {ws : List Int} (hw : ∀ w ∈ ws, 1 ≤ w ∧ w ≤ 3) (hl : ws.length ≤ 60) {te : TP} {r : Env} {gt : GD} (h : ∀ w ∈ ws, ∃ r1, gt (.int w) r = some r1 ∧ ∀ Q' : D → Prop, gStr [.int w] Q' → te r1 Q' E0') (q : Q (.str (fmtW ws))) :
    (ws.map D.int).length ≤ sizeLine ∧ compW gt bYes te r (ws.map D.int) fun ys => gJoin "" [.list ys] Q := by
  have small : ∀ k : Nat, k < 4 → k.log2 < 1920 ∧ (((toString (k : Int) : String) : Str)).length ≤ 1 := by decide
  refine ⟨le1000 (by rw [List.length_map]; omega), ?_⟩
  refine comp_enc D.int (fun w => .str ((toString w : String) : Str)) ws (fun w hm => ?_) ?_
  · obtain ⟨r1, e1, h1⟩ := h w hm
    have := hw w hm
    exact ⟨r1, e1, fun Q' q' => h1 Q' ⟨(small w.natAbs (by omega)).1, q'⟩⟩
  · have em : ws.map (fun w => D.str ((toString w : String) : Str)) = (ws.map fun w => ((toString w : String) : Str)).map D.str := by rw [List.map_map]; rfl
    rw [em]
    refine ⟨_, strs_map _, ?_, q⟩
    rw [List.map_map, List.length_map]
    have h1 := sum_le (l := ws.map ((·.length) ∘ fun w => ((toString w : String) : Str))) (m := 1) fun x hx => by
      obtain ⟨w, hm, rfl⟩ := List.mem_map.mp hx
      have := hw w hm
      have e : w = ((w.toNat : Nat) : Int) := by omega
      show (((toString w : String) : Str)).length ≤ 1
      rw [e]
      exact (small w.toNat (by omega)).2
    rw [List.length_map] at h1
    have e : ("" : Str).length = 0 := by decide
    rw [e]
    omega
theorem sem_format_regulator (x : Xc) : ∀ ds Q E, sp_format_regulator x ds Q E → t_format_regulator x (endD Q E) (startD 2 ds) := by
  rintro _ Q E ⟨a, rfl, hp, q⟩
  replace q : outE Q E (if isForF a 10 = true then .ok (.str (fmtR (rgOf a))) else .error x.badRegulator) := q
  unfold t_format_regulator
  refine seq_g fun n1 h1 => ?_
  walk_at "ds"
  refine ⟨a, rfl, hp, ?_⟩
  show outE _ E (if isForF a 10 = true then .ok (.str (rgOf a).kd.nm) else .error x.badRegulator)
  cases hf : isForF a 10 with
  | false => rw [hf] at q; exact q
  | true =>
    rw [hf] at q
    obtain ⟨g, ok, rfl, e⟩ := isForF_rg hf
    rw [e] at q
    replace q : Q (.str (fmtR g)) := q
    refine h1 _ ?_
    unfold wMs
    walk_at "ds"
    exact join_items ok (fun d _ => ⟨_, rfl, fun Q' q' => q'⟩) q
theorem sem_format_row (x : Xc) : ∀ ds Q E, sp_format_row x ds Q E → t_format_row x (endD Q E) (startD 2 ds) := by
  rintro _ Q E ⟨a, rfl, hp, q⟩
  replace q : outE Q E (onRow x a fun ws => .ok (.str (fmtW ws))) := q
  unfold t_format_row
  refine seq_g fun n1 h1 => ?_
  walk_at "ds"
  refine on_row hp q fun ws hl hw ea q1 => h1 _ ?_
  subst ea
  unfold wMs
  walk_at "ds"
  exact join_row hw hl (fun d _ => ⟨_, rfl, fun Q' q' => q'⟩) q1
end
end HC
/-! MT1: texts of marks, plain. -/
namespace HC
open PySem PySem.Spec PyProof.Rows L2
def sgnS (i : Int) : Str := if i = 0 then "-" else "+"
def wordM : D → Str
  | .int i => sgnS i
  | .tuple [.int s, .int h] => sgnS s ++ ((toString h : String) : Str)
  | _ => ""
def nsM : List Str := ns_HEATS.map (("-" : Str) ++ ·)
def nsP : List Str := ns_HEATS.map (("+" : Str) ++ ·)
def markS (w : Str) : Option D := match idxS w ["-", "+"] with
  | some s => some (.int (s : Nat))
  | none => match idxS w nsM with
    | some j => some (.tuple [.int 0, .int (j : Nat)])
    | none => match idxS w nsP with
      | some j => some (.tuple [.int 1, .int (j : Nat)])
      | none => none
def isM (d : D) : Prop := (∃ s : Nat, s < 2 ∧ d = .int (s : Int)) ∨ ∃ s h : Nat, s < 2 ∧ h < 11 ∧ d = .tuple [.int (s : Int), .int (h : Int)]
def chkA (s : Nat) : Bool := match markS (wordM (.int (s : Int))) with
  | some (.int i) => decide (i = (s : Int))
  | _ => false
def chkB (s h : Nat) : Bool := match markS (wordM (.tuple [.int (s : Int), .int (h : Int)])) with
  | some (.tuple [.int a, .int b]) => decide (a = (s : Int)) && decide (b = (h : Int))
  | _ => false
theorem chkA_all : ∀ s, s < 2 → chkA s = true := by decide +kernel
theorem chkB_all : ∀ s, s < 2 → ∀ h, h < 11 → chkB s h = true := by decide +kernel
theorem mark_word {d : D} (h : isM d) : markS (wordM d) = some d := by
  rcases h with ⟨s, hs, rfl⟩ | ⟨s, h, hs, hh, rfl⟩
  · have := chkA_all s hs
    unfold chkA at this
    split at this
    · rename_i i e
      rw [e, of_decide_eq_true this]
    · cases this
  · have := chkB_all s hs h hh
    unfold chkB at this
    split at this
    · rename_i a b e
      rw [Bool.and_eq_true] at this
      rw [e, of_decide_eq_true this.1, of_decide_eq_true this.2]
    · cases this
def okWd (w : Str) : Bool := decide ((cds w).length ≤ 3) && (decide ((cds w).length ≠ 0) && ((cds w).all fun c => decide (c ≠ 32) && decide (c < 128)))
theorem okA_all : ∀ s : Nat, s < 2 → okWd (wordM (.int (s : Int))) = true := by decide +kernel
theorem okB_all : ∀ s : Nat, s < 2 → ∀ h : Nat, h < 11 → okWd (wordM (.tuple [.int (s : Int), .int (h : Int)])) = true := by decide +kernel
theorem word_ok {d : D} (h : isM d) : okWd (wordM d) = true := by
  rcases h with ⟨s, hs, rfl⟩ | ⟨s, h, hs, hh, rfl⟩
  · exact okA_all s hs
  · exact okB_all s hs h hh
theorem okWd_iff {w : Str} (h : okWd w = true) : w.length ≤ 3 ∧ w.length ≠ 0 ∧ 32 ∉ cds w ∧ ∀ c ∈ cds w, c < 128 := by
  unfold okWd at h
  simp only [Bool.and_eq_true, decide_eq_true_eq, List.all_eq_true] at h
  rw [cds_len] at h
  exact ⟨h.1, h.2.1, fun z => absurd rfl (h.2.2 32 z).1, fun c hc => (h.2.2 c hc).2⟩
theorem sg2 : ∀ s : Nat, s < 2 → (["-", "+"] : List Str)[s]? = some (sgnS (s : Int)) := by decide
theorem word_mark {w : Str} {d : D} (h : markS w = some d) : wordM d = w ∧ isM d := by
  unfold markS at h
  split at h
  · rename_i s e
    cases h
    have h2 := (idxS_some e).1
    have hs : s < 2 := (List.getElem?_eq_some_iff.mp h2).1
    rw [sg2 s hs] at h2
    injection h2 with h2
    exact ⟨h2, .inl ⟨s, hs, rfl⟩⟩
  · split at h
    · rename_i j e
      cases h
      have h2 := (idxS_some e).1
      have hj : j < 11 := by
        have := (List.getElem?_eq_some_iff.mp h2).1
        simpa [nsM, ns_HEATS] using this
      unfold nsM at h2
      rw [List.getElem?_map, heats_at j hj] at h2
      injection h2 with h2
      exact ⟨h2, .inr ⟨0, j, by decide, hj, rfl⟩⟩
    · split at h
      · rename_i j e
        cases h
        have h2 := (idxS_some e).1
        have hj : j < 11 := by
          have := (List.getElem?_eq_some_iff.mp h2).1
          simpa [nsP, ns_HEATS] using this
        unfold nsP at h2
        rw [List.getElem?_map, heats_at j hj] at h2
        injection h2 with h2
        exact ⟨h2, .inr ⟨1, j, by decide, hj, rfl⟩⟩
      · cases h
/-! ### rows of marks -/
def areM (d : D) : Bool := isMrowF d 10 0 || isMrowF d 10 1
def marksD : D → List D
  | .list ds => ds
  | _ => []
def fmtM (ds : List D) : Str := Txt.join " " (ds.map wordM)
def readM (z : Str) : Option (List D) := if z = "" then some [] else (Txt.split z " ").mapM markS
def parM : D → Option D
  | .str z => match readM z with
    | some ds => if areM (.list ds) = true then some (.list ds) else none
    | none => none
  | _ => none
theorem isM_of0 {d : D} (h : isMarkF d 10 0 = true) : isM d := by
  unfold isMarkF at h
  rw [if_pos rfl] at h
  cases d with
  | int i =>
    have h : (decide (0 ≤ i) && decide (i ≤ 1)) = true := h
    simp at h
    exact .inl ⟨i.toNat, by omega, by congr 1; omega⟩
  | _ => cases h
theorem isM_of1 {d : D} (h : isMarkF d 10 1 = true) : isM d := by
  unfold isMarkF at h
  rw [if_neg (by decide)] at h
  split at h
  · rename_i a b
    rw [Bool.and_eq_true] at h
    cases a with
    | int i =>
      cases b with
      | int j =>
        have h1 : (decide (0 ≤ i) && decide (i ≤ 1)) = true := h.1
        have h2 : (decide (0 ≤ j) && decide (j ≤ 10)) = true := h.2
        simp at h1 h2
        refine .inr ⟨i.toNat, j.toNat, by omega, by omega, ?_⟩
        rw [show ((i.toNat : Nat) : Int) = i by omega, show ((j.toNat : Nat) : Int) = j by omega]
      | _ => cases h.2
    | _ => cases h.1
  · cases h
theorem areM_is {d : D} (h : areM d = true) : ∃ ds, d = .list ds ∧ ds.length ≤ 60 ∧ ∀ m ∈ ds, isM m := by
  unfold areM at h
  rw [Bool.or_eq_true] at h
  cases d with
  | list ds =>
    refine ⟨ds, rfl, ?_⟩
    rcases h with h | h
    · have h : (decide (ds.length ≤ 60) && ds.all fun d => isMarkF d 10 0) = true := h
      rw [Bool.and_eq_true] at h
      exact ⟨of_decide_eq_true h.1, fun m hm => isM_of0 (List.all_eq_true.mp h.2 m hm)⟩
    · have h : (decide (ds.length ≤ 60) && ds.all fun d => isMarkF d 10 1) = true := h
      rw [Bool.and_eq_true] at h
      exact ⟨of_decide_eq_true h.1, fun m hm => isM_of1 (List.all_eq_true.mp h.2 m hm)⟩
  | _ => rcases h with h | h <;> cases h
theorem mapM_words : ∀ {ds : List D}, (∀ m ∈ ds, isM m) → (ds.map wordM).mapM markS = some ds
  | [], _ => rfl
  | d :: ds, h => by
    rw [List.map_cons, List.mapM_cons, mark_word (h d List.mem_cons_self)]
    show (do let r ← (ds.map wordM).mapM markS; pure (d :: r)) = _
    rw [mapM_words fun m hm => h m (List.mem_cons_of_mem _ hm)]
    rfl
theorem mapM_marks : ∀ {ws : List Str} {ds : List D}, ws.mapM markS = some ds → ds.map wordM = ws ∧ ∀ m ∈ ds, isM m
  | [], ds, h => by
    have : ds = [] := by injection h with h; exact h.symm
    subst this
    exact ⟨rfl, fun m hm => by cases hm⟩
  | w :: ws, ds, h => by
    rw [List.mapM_cons] at h
    cases h1 : markS w with
    | none => rw [h1] at h; cases h
    | some d =>
      rw [h1] at h
      cases h2 : ws.mapM markS with
      | none =>
        rw [h2] at h
        cases h
      | some r =>
        have h : (do let r ← ws.mapM markS; pure (d :: r)) = some ds := h
        rw [h2] at h
        have h : some (d :: r) = some ds := h
        injection h with h
        subst h
        obtain ⟨a, b⟩ := mapM_marks h2
        obtain ⟨c, e⟩ := word_mark h1
        refine ⟨by rw [List.map_cons, a, c], fun m hm => ?_⟩
        rcases List.mem_cons.mp hm with rfl | hm
        · exact e
        · exact b m hm
theorem join_ne {ds : List D} (ne : ds ≠ []) (h : ∀ m ∈ ds, isM m) : fmtM ds ≠ "" := fun z => by
  cases ds with
  | nil => exact ne rfl
  | cons d ds =>
    have h1 := (okWd_iff (word_ok (h d List.mem_cons_self))).2.1
    have e : (cds (fmtM (d :: ds))).length = 0 := by rw [z]; rfl
    unfold fmtM at e
    rw [List.map_cons] at e
    cases ds with
    | nil =>
      have : Txt.join " " [wordM d] = wordM d := by rw [join_eq]; rfl
      rw [List.map_nil, this, cds_len] at e
      exact h1 e
    | cons d2 ds =>
      rw [List.map_cons, cds_join1, List.length_append, List.length_append, cds_len] at e
      omega
theorem fmtM_nil : fmtM [] = "" := by decide
theorem read_fmtM {ds : List D} (h : ∀ m ∈ ds, isM m) : readM (fmtM ds) = some ds := by
  unfold readM
  by_cases ne : ds = []
  · subst ne
    rw [if_pos fmtM_nil]
  · rw [if_neg (join_ne ne h)]
    have : Txt.split (fmtM ds) " " = ds.map wordM := by
      unfold fmtM
      rw [sp_is]
      refine split_join (by simpa using ne) fun w hw => ?_
      obtain ⟨m, hm, rfl⟩ := List.mem_map.mp hw
      exact (okWd_iff (word_ok (h m hm))).2.2.1
    rw [this]
    exact mapM_words h
theorem parM_s (z : Str) : parM (.str z) = match readM z with
    | some ds => if areM (.list ds) = true then some (.list ds) else none
    | none => none := rfl
theorem par_fmtM {ds : List D} (h : areM (.list ds) = true) : parM (.str (fmtM ds)) = some (.list ds) := by
  obtain ⟨ds', e, _, hm⟩ := areM_is h
  cases e
  rw [parM_s, read_fmtM hm]
  simp only [h, if_true]
theorem fmt_parM {z : Str} {d : D} (h : parM (.str z) = some d) : ∃ ds, d = .list ds ∧ areM (.list ds) = true ∧ fmtM ds = z := by
  rw [parM_s] at h
  cases hr : readM z with
  | none => rw [hr] at h; cases h
  | some ds =>
    rw [hr] at h
    simp only at h
    split at h
    · rename_i ha
      cases h
      refine ⟨ds, rfl, ha, ?_⟩
      unfold readM at hr
      split at hr
      · rename_i e
        cases hr
        rw [e, fmtM_nil]
      · obtain ⟨a, _⟩ := mapM_marks hr
        unfold fmtM
        rw [a, sp_is]
        exact join_split' z 32
    · cases h
end HC
/-! HP1: a list comprehension whose element may let an exception out. -/
namespace HC
open PySem PySem.Spec PyProof.Rows L2
theorem note_same {x : Value} {e1 e2 : PySem.Env} (h : e1.frame = e2.frame) : noteFrame x e1 = noteFrame x e2 := by
  unfold noteFrame PySem.frameOf
  rw [h]
/-- the block's end; an error flies on from the frame fr -/
def endX (M : Model) (A : Around) (E : Value → Shared → Prop) (Q : Value → Shared → Prop) (fr : Option Addr) (acc : Value) (Ca : Addr) (res : Result) (s' : Shared) : Prop :=
  ∃ m, s'.heap.Ns Ca m ∧ ∀ h', Heap.SameBut Ca s'.heap h' → match res with
    | .ok _ => Q acc { s' with heap := h' }
    | .error x => ∀ ce : PySem.Env, ce.frame = fr → wpAny M A (passOn "comprehension.variables-let-go" x ce : Sem Value) (fun _ _ => False) E { s' with heap := h' }
theorem comp_endX {M : Model} {A : Around} {E : Value → Shared → Prop} {s : Shared} {env : PySem.Env} {e : Expr} {scope : Scope} {pos : Pos} {mk it0 : Sem Value} {cg : Comprehension} {cgs : List Comprehension} {cl : List (Str × Addr)} {Q : Value → Shared → Prop}
    (hcl : clausesOf e = cg :: cgs) (hs : ∀ x, foldedSetIterable cg.iter env x = pure x) (hclo : closureFor scope env = pure cl) (hkd : scope.kind = .function) (hnm : ∀ x ∈ scope.names, x.2 = .local → scope.names.lookup x.1 = some .local)
    (h : wpAny M A it0 (fun x s1 => wpAny M A (pyIter x) (fun it s2 => wpAny M A mk (fun acc s3 => wpAny M A (newFunctionEnv scope env.globals cl [] env.qual none .none (some env)) (fun ce s4 =>
        codeAny M A (.compStart e 0 it acc { ce with scope := relabel scope env }) (endX M A E Q ce.frame acc ce.locals) s4) E s3) E s2) E s1) E s) :
    wpAny M A (comprehension e scope env pos mk false it0 none) Q E s := by
  unfold comprehension
  rw [hclo, hcl]
  refine wpAny_bind (wpAny_mono h (fun x s1 k1 => ?_) fun _ _ z => z)
  refine wpAny_bind (wpAny_standAt (wpAny_bind (wpAny_of_eq (hs x) (wpAny_bind (wpAny_holding (wpAny_mono k1 (fun it s2 k2 => ?_) fun _ _ z => z))))))
  refine wpAny_standIf (wpAny_bind (wpAny_mono k2 (fun acc s3 k3 => ?_) fun _ _ z => z))
  refine wpAny_bind (wpAny_pure (wpAny_bind (wpAny_mono k3 (fun ce s4 k4 => ?_) fun _ _ z => z)))
  dsimp only
  have hv : ∀ x ∈ (scope.names.filter fun x => (x.2 == .local || x.2 == .cell) && x.1 != (".0" : Str)).reverse, x.2 = .local →
      PySem.Env.kindOf { ce with scope := relabel scope env } x.1 = some .local := fun y hy hl => lookup_relabel_local (hnm y (List.mem_filter.mp (List.mem_reverse.mp hy)).1 hl)
  refine wpAny_holding (wpAny_bind (wpAny_attempt (wpAny_holding (wpAny_run (codeAny_mono k4 fun res s' hr => ?_)))))
  obtain ⟨m, hn, hr⟩ := hr
  cases res with
  | ok f => exact wpAny_bind (wpAny_holding (wpAny_comp_letGo (cenv := { ce with scope := relabel scope env }) hkd _ s' m hv hn fun h' m' _ sb => wpAny_pure (hr h' sb)))
  | error x => exact wpAny_bind (wpAny_holding (wpAny_comp_letGo (cenv := { ce with scope := relabel scope env }) hkd _ s' m hv hn fun h' m' _ sb => wpAny_mono (hr h' sb _ rfl) (fun _ _ z => z.elim) fun _ _ z => z))

/-- an exception of a call, in flight: the state without it -/
theorem air_of {X : Cx} {pins : List (Addr × Obj)} {σ : L2.St} {H : Hp} {s s' : Shared} {E : XK} {u : Value} (I : Inv X pins σ H s) (c : L2.CX X.prog X.w X.stack H s E u s') :
    ∃ (a : Addr) (B : Heap) (sI : Shared) (pins : List (Addr × Obj)) (σ : L2.St) (H' : Hp) (cls : Value) (d : Option Addr), u = .ref a ∧ Inv X pins σ H' sI ∧ (∀ b o, sI.heap.get? b = some o → b ∉ frs X.stack → B.get? b = some o) ∧ sI.heap.UpToSlots s'.heap ∧
      HandSPX.FlyingZ B X.stack a (Zc cls d) s'.heap ∧ H' a = none ∧ s'.os = sI.os ∧ AllBare s'.gens ∧ E cls d H' := by
  obtain ⟨a, B, sI, pins', σ', H', cls, d, e, I', nb, up, sky, na, os, ag, w⟩ := XE.of_call (W := fun cls d _ H => E cls d H) I (fun _ _ _ h => h) c
  obtain ⟨a0, _, _, cls0, d0, e0, fl0, _⟩ := c
  subst e0
  cases e
  obtain ⟨_, _, _, oe, vs, T, oT, ts, g1, _, g3, g4, _, _, g7, g8, g9⟩ := fl0
  refine ⟨_, B, sI, pins', σ', H', cls, d, rfl, I', nb, up, ?_, na, os, ag, w⟩
  rcases sky with ⟨_, _, _, oe', vs', q1, _, q3, q4⟩ | fl | ⟨_, _, _, oe', vs', T', oT', ts', q1, _, q3, q4, _, _, q7, q8, q9⟩
  · rw [g1] at q1; cases q1
    rw [g3] at q3; cases q3
    rw [g4] at q4; cases q4
  · exact fl
  · rw [g1] at q1; cases q1
    rw [g3] at q3; cases q3
    rw [g4] at q4; cases q4
    rw [g7] at q7; cases q7
    rw [g8] at q8; cases q8
    rw [g9] at q9; cases q9

/-- the block, what its calls let out told by Eb -/
abbrev _root_.L2.Cx.blkX (X : Cx) (Eb : XK) (s : Shared) (H : Hp) (scope : Scope) (ce : PySem.Env) (fp : List Addr) : Cx :=
  (X.blk s H scope ce fp).wish fun u s' => ∃ pins σ H1 s1, Inv (X.blk s H scope ce fp) pins σ H1 s1 ∧ L2.CX X.prog X.w X.stack H1 s1 Eb u s'
theorem blkX_pass {X : Cx} {Eb : XK} {s : Shared} {H : Hp} {scope : Scope} {ce : PySem.Env} {fp : List Addr} (σ : L2.St) : PassesAt (L2.CX X.prog X.w) (X.blkX Eb s H scope ce fp) σ Eb := fun pins H1 s1 e s' I c => ⟨pins, σ, H1, s1, I.unwish, c⟩
theorem frames_small {X : Cx} {pins : List (Addr × Obj)} {σ : L2.St} {H : Hp} {s : Shared} (I : Inv X pins σ H s) {b : Addr} (hb : b ∈ frs X.stack) : b < s.heap.objs.size := by
  obtain ⟨_, o, e, _⟩ := I.stack.mem hb
  exact Heap.lt_size e
theorem funFrames_sub {h base base' : Heap} (hs : ∀ b, base.get? b = none → base'.get? b = none) : ∀ {l : List PySem.Env}, h.FunFrames base l → h.FunFrames base' l
  | [], _ => trivial
  | env :: l, ⟨hk, ⟨L, o, hf, n, ho, hd⟩, hr⟩ => ⟨hk, ⟨L, o, hf, hs _ n, ho, hd⟩, funFrames_sub hs hr⟩
/-- from the block's air to the def's -/
theorem air_out {X : Cx} {Eb : XK} {W : WX} {pins0 : List (Addr × Obj)} {σ0 : L2.St} {H0 : Hp} {s0 : Shared} {scope : Scope} {cl : List (Str × Addr)} {fp : List Addr} {Q : Value → Shared → Prop} {acc u : Value} {s' : Shared}
    (hst : X.stack = X.env :: X.outer) (hf : X.env.frame = some X.env.locals) (tk : Takes X W) (I0 : Inv X pins0 σ0 H0 s0) (hEb : ∀ cls d H', Eb cls d H' → W cls d σ0 H')
    (f0 : ∀ b ∈ fp, FpOk X pins0 H0 b)
    (x : ∃ pins σ H1 s1, Inv (X.blk s0 H0 scope (compEnvC scope cl s0.heap.objs.size X.env) fp) pins σ H1 s1 ∧ L2.CX X.prog X.w X.stack H1 s1 Eb u s') :
    notedBy (model X.prog X.w) X.A (compEnvC scope cl s0.heap.objs.size X.env) (fun e s2 => endX (model X.prog X.w) X.A X.xe Q X.env.frame acc s0.heap.objs.size (.error e) s2) u s' := by
  obtain ⟨pins, σ, H1, s1, I1, c⟩ := x
  obtain ⟨a, B, sI, pinsI, σI, H', cls, d, rfl, I, nb, up, fl, na, os, ag, w⟩ := air_of I1 c
  replace nb : ∀ b o, sI.heap.get? b = some o → b ∉ frs X.stack → B.get? b = some o := nb
  replace fl : HandSPX.FlyingZ B X.stack a (Zc cls d) s'.heap := fl
  generalize hC : s0.heap.objs.size = Ca at I
  have nC : Ca ∉ frs X.stack := fun h => by
    have := frames_small I0 h
    rw [hC] at this
    exact Nat.lt_irrefl _ this
  show wpAny _ _ (noteFrame (.ref a) (compEnvC scope cl Ca X.env)) _ _ _
  rw [note_same (e1 := compEnvC scope cl Ca X.env) (e2 := X.env) rfl]
  rw [hst] at fl
  refine HandSPX.looks_onZ Zc.steady (by rw [I0.ok.frames, hst]) hf fl fun h1 hh1 up1 => ?_
  obtain ⟨m, hn, _⟩ := I.loc
  have hn : sI.heap.Ns Ca m := hn
  obtain ⟨oC, es, ep, hoC, rC⟩ := hn
  have bC := nb Ca oC hoC nC
  refine ⟨m, ⟨oC, es, ep, hh1.1 Ca oC bC, rC⟩, fun h2 sb ce hce => ?_⟩
  have nH : H' Ca = none := by
    have z := I.free
    exact z
  -- the ground without the block's names
  generalize hB : PySem.W.hideAll B [Ca] = B'
  have inB : ∀ b o, B'.get? b = some o → B.get? b = some o ∧ b ≠ Ca := fun b o e => by
    rw [← hB] at e
    refine ⟨PySem.W.of_hideAll _ e, fun z => ?_⟩
    rw [z, PySem.W.hideAll_none _ (List.mem_singleton.mpr rfl)] at e
    cases e
  have toB : ∀ b o, B.get? b = some o → b ≠ Ca → B'.get? b = some o := fun b o e z => by
    rw [← hB]
    exact PySem.W.hideAll_get _ e fun q => z (List.mem_singleton.mp q)
  have noB : ∀ b, B.get? b = none → B'.get? b = none := fun b e => by
    cases q : B'.get? b with
    | none => rfl
    | some o => rw [(inB b o q).1] at e; cases e
  have ne : ∀ b, B.get? b = none → b ≠ Ca := fun b e z => by rw [z, bC] at e; cases e
  obtain ⟨k1, k2, k3, oe, vs, T, oT, ts, t1, t2, t3, t4, t5, t6, t7, t8, t9⟩ := hh1
  have same : ∀ b, b ≠ Ca → h2.get? b = h1.get? b := fun b hb => sb.2 b hb
  have frm : ∀ b ∈ frs X.stack, b ≠ Ca := fun b hb z => nC (z ▸ hb)
  have ff2 : h2.FunFrames B' (X.env :: X.outer) := by
    have key : ∀ l : List PySem.Env, (∀ b ∈ frs l, b ≠ Ca) → h1.FunFrames B l → h2.FunFrames B' l := by
      intro l
      induction l with
      | nil => intro _ _; trivial
      | cons env l ih =>
        rintro hb ⟨hk, ⟨L, o, hf, n, ho, hd⟩, hr⟩
        refine ⟨hk, ⟨L, o, hf, noB L n, ?_, hd⟩, ih (fun b hb' => hb b ?_) hr⟩
        · rw [same L (hb L (List.mem_filterMap.mpr ⟨env, List.mem_cons_self, hf⟩))]
          exact ho
        · obtain ⟨e, he, q⟩ := List.mem_filterMap.mp hb'
          exact List.mem_filterMap.mpr ⟨e, List.mem_cons_of_mem _ he, q⟩
    exact key _ (by rw [← hst]; exact frm) k3
  have hh2 : HandSPX.HeldZ B' (X.env :: X.outer) a (Zc cls d) X.env.locals h2 :=
    ⟨fun b o e => by rw [same b (inB b o e).2]; exact k1 b o (inB b o e).1, noB a k2, ff2, oe, vs, T, oT, ts, by rw [same a (ne a k2)]; exact t1, t2, t3, t4, noB T t5, t6, by rw [same T (ne T t5)]; exact t7, t8, t9⟩
  have IX : Inv X pins0 σ0 H' sI := I0.call' (ch := fp) I.os I.base I.hok I.bare fun b hb => ⟨(f0 b hb).2.2.2.1, (f0 b hb).2.1, (f0 b hb).2.2.2.2.1, (f0 b hb).2.2.2.2.2⟩
  have fC : FpOk X pins0 H' Ca := I0.fpOk (Nat.le_of_eq hC) nH
  obtain ⟨c0, c1, c2, c3, c4, c5⟩ := fC
  have IZ : Inv X pins0 σ0 H' { sI with heap := PySem.W.hideAll sI.heap [Ca] } := IX.turned (t' := sI.toks) (fun b o hb e => PySem.W.hideAll_get _ e fun q => hb (List.mem_singleton.mp q)) c0 c1 c3 c4 c5
  have inI : ∀ b o, (PySem.W.hideAll sI.heap [Ca]).get? b = some o → sI.heap.get? b = some o ∧ b ≠ Ca := fun b o e => by
    refine ⟨PySem.W.of_hideAll _ e, fun z => ?_⟩
    rw [z, PySem.W.hideAll_none _ (List.mem_singleton.mpr rfl)] at e
    cases e
  unfold PySem.passOn
  obtain ⟨_, _, _, oe2, vs2, T2, _, _, u1, _, u3, u4, _⟩ := id hh2
  refine wpAny_bind (wpAny_field (s := { s' with heap := h2 }) u1 u3 u4 ?_)
  rw [if_neg (show ¬ ((Value.ref T2 == Value.none) = true) from by simp)]
  have fin : wpAny (model X.prog X.w) X.A (setFlight (.ref a) ce.frame) (fun _ s4 => wpAny (model X.prog X.w) X.A (throw (.ref a) : Sem Value) (fun _ _ => False) X.xe s4) X.xe { s' with heap := h2 } := by
    rw [hce, hf]
    refine HandSPX.setFlight_onZ hh2 fun h3 hh3 up3 => wpAny_throw (tk _ _ ?_)
    refine ⟨a, B', _, pins0, σ0, H', cls, d, rfl, IZ, fun b o e hb => toB b o (nb b o (inI b o e).1 hb) (inI b o e).2, fun b o e hd => ?_, .inr (.inr (by rw [hst]; exact hh3)), na, os, ag, hEb _ _ _ w⟩
    obtain ⟨e1, e2⟩ := inI b o e
    obtain ⟨sl1, g1⟩ := up b o e1 hd
    obtain ⟨sl2, g2⟩ := up1 b _ g1 hd
    rw [← same b e2] at g2
    obtain ⟨sl3, g3⟩ := up3 b _ g2 hd
    exact ⟨sl3, g3⟩
  first
    | exact wpAny_bind (wpAny_pure (wpAny_bind fin))
    | exact wpAny_bind fin
end HC
/-! HP2: the comprehension's loop, errors let out. -/
namespace HC
open PySem PySem.Spec PyProof.Rows L2
section
variable {X : Cx}
def tLcX (W : WX) (wi : TI) (g : TG) (te : XK → TE) (vs : List Nat) : TE := fun σ H Q => ∃ Eb : XK, (∀ cls d H', Eb cls d H' → W cls d σ H') ∧ tLc wi g tYes (te Eb) vs σ H Q
theorem pe_lcX {W : WX} {elt tg iter : Expr} {scope : Scope} {own : List (Str × Nat)} {pos : Pos} {wi : TI} {g : TG} {te : XK → TE} (hst : X.stack = X.env :: X.outer) (hf : X.env.frame = some X.env.locals) (tk : Takes X W)
    (hc : X.calm = true) (hN : X.N.Nodup) (hi : PI X tg iter wi) (ok : BlkOk X.N X.env.scope scope own)
    (hg : ∀ (s : Shared) (H : Hp) (Ca : Addr) (cl : List (Str × Addr)) (fp : List Addr), PG (X.blk s H scope (compEnvC scope cl Ca X.env) fp) tg g)
    (he : ∀ (Eb : XK) (s : Shared) (H : Hp) (Ca : Addr) (cl : List (Str × Addr)) (fp : List Addr), PE (X.blkX Eb s H scope (compEnvC scope cl Ca X.env) fp) elt (te Eb)) (hs : ∀ x, foldedSetIterable iter X.env x = pure x := by intro _; rfl) :
    PE X (.ListComp elt [⟨tg, iter, [], 0⟩] scope pos) (tLcX W wi g te (own.map (·.2))) := by
  refine ⟨fun pins s σ H Q I ⟨Eb, hEb, h⟩ => ?_⟩
  rw [eval_ListComp]
  have caught : ∀ y ∈ scope.names, y.2 = .free → ∃ c, X.env.cells.lookup y.1 = some c := fun y hy e => (ok.free y hy e).elim (fun q => I.ok.has _ (.inl q)) fun q => I.ok.has _ (.inr q)
  refine comp_endX rfl hs (closure_ok caught) ok.kind (fun y hy e => by rw [ok.uniq y hy, e]) (thn (hi.run pins s σ H _ I h) fun xv s1 hx => thn hx fun itv s2 z2 => ?_)
  obtain ⟨it, fp, tn, J, H2, e, I2, T, t2, f2, q⟩ := z2
  subst e
  refine wpAny_newObj_type (newEnv_comp ?_) (by show 0 ≤ sizeLine; decide)
  generalize eD : s2.heap.objs.size = D
  have hD : H2 D = none := I2.hok.fresh (Nat.le_of_eq eD)
  obtain ⟨Wv, ⟨m0, w0⟩, turn⟩ := q D hD
  generalize e3 : ({ s2 with heap := s2.heap.push { cls := .type "list", data := .seq ([] : List Value).toArray } } : Shared) = s3
  have g3 : s3.heap = s2.heap.push { cls := .type "list", data := .seq ([] : List Value).toArray } := by rw [← e3]
  have I3 : Inv X pins σ (upd H2 D (.lst [])) s3 := by
    rw [← e3]
    refine I2.laid (t' := s2.toks) (fun b o z => Heap.get?_push_of_some _ z) (Nat.le_of_eq eD) ⟨Nat.zero_le _, [], 0, .nil, ?_⟩
    rw [← eD]
    exact Heap.get?_push_size _ rfl
  have small : ∀ b ∈ fp, b < s2.heap.objs.size := fun b hb => by
    obtain ⟨o, z, _⟩ := T.obj _ _ t2 b hb
    exact Heap.lt_size z
  have f3 : ∀ b ∈ fp, FpOk X pins (upd H2 D (.lst [])) b ∧ b < s3.heap.objs.size := fun b hb => by
    have lt := small b hb
    refine ⟨⟨?_, (f2 b hb).2⟩, by rw [g3, Heap.size_push]; exact Nat.lt_succ_of_lt lt⟩
    rw [upd_ne (by rw [← eD]; exact Nat.ne_of_lt lt)]
    exact (f2 b hb).1
  have t3 : tn 0 s3.heap := T.keep _ _ _ t2 fun b _ o z => by rw [g3]; exact Heap.get?_push_of_some _ z
  have I4 := block_start I3 ok hN f3
  have pg := hg s3 (upd H2 D (.lst [])) s3.heap.objs.size (cellsFrom (s3.heap.objs.size + 1) scope.names (cloFrom X.env.cells scope.names [])) fp
  have pe := he Eb s3 (upd H2 D (.lst [])) s3.heap.objs.size (cellsFrom (s3.heap.objs.size + 1) scope.names (cloFrom X.env.cells scope.names [])) fp
  have out : ∀ (u : Value) (s' : Shared), (∃ pins σ H1 s1, Inv (X.blk s3 (upd H2 D (.lst [])) scope (compEnvC scope (cellsFrom (s3.heap.objs.size + 1) scope.names (cloFrom X.env.cells scope.names [])) s3.heap.objs.size X.env) fp) pins σ H1 s1 ∧ L2.CX X.prog X.w X.stack H1 s1 Eb u s') →
      notedBy (model X.prog X.w) X.A (compEnvC scope (cellsFrom (s3.heap.objs.size + 1) scope.names (cloFrom X.env.cells scope.names [])) s3.heap.objs.size X.env) (fun e s2 => endX (model X.prog X.w) X.A X.xe (EP X pins σ Q) X.env.frame (.ref D) s3.heap.objs.size (.error e) s2) u s' := fun u s' x => air_out hst hf tk I3 hEb (fun b hb => (f3 b hb).1) x
  have free : ∀ b ∈ fp, (upd H2 D (.lst [])) b = none := fun b hb => (f3 b hb).1.1
  show codeAny _ _ (.compStart (.ListComp elt [⟨tg, iter, [], 0⟩] scope pos) 0 (.ref it) (.ref D) (compEnvC scope (cellsFrom (s3.heap.objs.size + 1) scope.names (cloFrom X.env.cells scope.names [])) s3.heap.objs.size X.env)) (endX (model X.prog X.w) X.A X.xe (EP X pins σ Q) X.env.frame (.ref D) s3.heap.objs.size) { s3 with heap := pushCells (s3.heap.push { cls := .type "dict", data := .dict #[] }) scope.names }
  generalize ece : compEnvC scope (cellsFrom (s3.heap.objs.size + 1) scope.names (cloFrom X.env.cells scope.names [])) s3.heap.objs.size X.env = ce at I4 pg pe out ⊢
  have cL : ce.locals = s3.heap.objs.size := by subst ece; rfl
  generalize eH3 : upd H2 D (.lst []) = H3 at I3 I4 pg pe w0 free f3 out
  generalize e4 : ({ s3 with heap := pushCells (s3.heap.push { cls := .type "dict", data := .dict #[] }) scope.names } : Shared) = s4 at I4 ⊢
  have t4 : tn 0 s4.heap := T.keep _ _ _ t3 fun b _ o z => by rw [← e4]; exact pushCells_keeps _ _ _ _ (Heap.get?_push_of_some _ z)
  have fpo : ∀ {σ' : L2.St} {H' : Hp} {s' : Shared}, Inv (X.blk s3 H3 scope ce fp) [] σ' H' s' → (∀ b ∈ fp, H' b = none) → ∀ b ∈ fp, FpOk (X.blk s3 H3 scope ce fp) [] H' b := fun {σ' H' s'} I' hn b hb =>
    ⟨hn b hb, (I'.ok.exf b hb).1, I'.ok.exfs b hb, .inl hb, fun x c z => (I'.ok.exf b hb).2 x c z, fun p hp => absurd (show p ∈ ([] : List (Addr × Obj)) ++ [] from hp) (by simp)⟩
  have loop : codeAny (model X.prog X.w) X.A (.compLoop (.ListComp elt [⟨tg, iter, [], 0⟩] scope pos) 0 (.ref it) (.ref D) ce) (endX (model X.prog X.w) X.A X.xe (EP X pins σ Q) X.env.frame (.ref D) s3.heap.objs.size) s4 := by
    refine compLoop_any (fun n s' => ∃ i H', Inv (X.blk s3 H3 scope ce fp) [] (L2.wipe σ (own.map (·.2))) H' s' ∧ tn i s'.heap ∧ (∀ b ∈ fp, H' b = none) ∧ Wv i n H') ?_ m0 ⟨0, H3, I4, t4, free, w0⟩
    rintro n s5 ⟨i, H5, I5, t5, n5, w5⟩
    rcases turn i n H5 w5 with ⟨stop, qq⟩ | ⟨go, Nx, hNx, step⟩
    · refine thnF (T.done (X.blk s3 H3 scope ce fp) rfl rfl rfl hc i [] s5 _ H5 (fun _ _ => False) I5 (fpo I5 n5) t5 stop) fun res s6 ⟨hr, I6⟩ => ?_
      subst hr
      have I7 : Inv X pins σ H5 s6 := I3.call' (ch := fp) I6.os I6.base I6.hok I6.bare fun b hb => ⟨(f3 b hb).1.2.2.2.1, (f3 b hb).1.2.1, (f3 b hb).1.2.2.2.2.1, (f3 b hb).1.2.2.2.2.2⟩
      have nC : H5 s3.heap.objs.size = none := by
        have z : H5 ce.locals = none := I6.free
        rwa [cL] at z
      obtain ⟨m, hn, _⟩ := I6.loc
      replace hn : s6.heap.Ns ce.locals m := hn
      rw [cL] at hn
      obtain ⟨c0, c1, c2, c3, c4, c5⟩ := I3.fpOk (H' := H5) (Nat.le_refl _) nC
      exact ⟨m, hn, fun h'' sb => ⟨.ref D, H5, I7.turned (t' := s6.toks) (fun b o hb z => (sb.2 b hb).trans z) c0 c1 c3 c4 c5, rfl, qq⟩⟩
    · refine thnF (T.item (X.blk s3 H3 scope ce fp) rfl rfl rfl hc i [] s5 _ H5 (fun _ _ => False) I5 (fpo I5 n5) t5 go) fun res s6 ⟨v6, hr, z6⟩ => ?_
      subst hr
      refine thnF z6 fun _ s7 ⟨x, H7, I7, r7, y7, t7, n7⟩ => ?_
      refine thnF (pg.run _ s7 _ H7 x v6 _ (I7.pinned (fpo I7 n7) (T.obj _ _ t7)) r7 (step x H7 y7)) fun _ s8 ⟨σ8, H8, I8, hw8, q8⟩ => ?_
      refine wpAny_tests_nil ?_
      rw [if_pos rfl]
      have q8 : te Eb σ8 H8 fun y H4 => ∃ acc, H4 D = some (.lst acc) ∧ acc.length < sizeLine ∧ Nx (upd H4 D (.lst (acc ++ [y]))) := q8
      have fin : ∀ {s' : Shared} {H' : Hp}, Inv (X.blk s3 H3 scope ce fp) ([] ++ pinsAt fp s7.heap) σ8 H' s' → Nx H' → ∃ m, m < n ∧ ∃ i H', Inv (X.blk s3 H3 scope ce fp) [] (L2.wipe σ (own.map (·.2))) H' s' ∧ tn i s'.heap ∧ (∀ b ∈ fp, H' b = none) ∧ Wv i m H' := fun {s' H'} I' nx => by
        obtain ⟨m', hm, w'⟩ := hNx H' nx
        have held : ∀ b ∈ fp, ∀ o, s7.heap.get? b = some o → s'.heap.get? b = some o ∧ H' b = none := fun b hb o z =>
          let y := I'.pin (b, o) (List.mem_append_right _ (List.mem_append_right _ (mem_pinsAt hb z)))
          ⟨y.1, y.2.1⟩
        have len : (L2.wipe σ (own.map (·.2))).length = σ8.length := by rw [← hw8, wipe_length]
        refine ⟨m', hm, i + 1, H', (I'.unpinned (pins := [])).weak len (fun j v z => ?_), T.keep _ _ _ t7 fun b hb o z => (held b hb o z).1, fun b hb => ?_, w'⟩
        · rw [← hw8] at z
          exact (wipe_some z).1
        · obtain ⟨o, z, _⟩ := T.obj _ _ t7 b hb
          exact (held b hb o z).2
      refine wpAny_mono (pe.run _ s8 σ8 H8 _ (I8.wish _) q8) (fun z s10 ⟨yv, H10, I10, r10, acc, hD10, hz10, nx⟩ => ?_) (fun u s' x => ?_)
      · exact app_ok (X := X.blk s3 H3 scope ce fp) I10.unwish hD10 hz10 r10 fun s11 I11 => fin I11 nx
      · exact out u s' x
  exact codeAny_compStart_list loop (T.self X.A 0 _ _ _ t4 loop)
end
end HC
/-! HP3: such a comprehension over data. -/
namespace HC
open PySem PySem.Spec PyProof.Rows L2
def compWX (g : GD) (te : TP) (r : Env) : List D → (List D → Prop) → (Addr → Prop) → Prop
  | [], Q, _ => Q []
  | d :: ds, Q, E => ∃ r1, g d r = some r1 ∧ te r1 (fun y => compWX g te r ds (fun ys => Q (y :: ys)) E) E
def wCompX (vs : List Nat) (u : TPA) (g : GD) (te : TP) : TP := fun r Q E => u r (fun ds => ds.length ≤ sizeLine ∧ compWX g te (wipeD r vs) ds (fun ys => Q (.list ys)) E) E
section
variable {g : GD} {te : TP}
theorem mono_compWX (he : Mono te) (r : Env) : ∀ (ds : List D) {Q Q' : List D → Prop} {E E' : Addr → Prop}, (∀ d, Q d → Q' d) → (∀ c, E c → E' c) → compWX g te r ds Q E → compWX g te r ds Q' E'
  | [], _, _, _, _, h, _, q => h _ q
  | d :: ds, Q, Q', E, E', h, hE, ⟨r1, e1, q⟩ => ⟨r1, e1, he.imp (fun y w => mono_compWX he r ds (fun ys v => h _ v) hE w) hE q⟩
theorem mono_compX {vs : List Nat} {u : TPA} (hu : MonoI u) (he : Mono te) : Mono (wCompX vs u g te) := ⟨fun hq hE q => hu.imp (fun ds ⟨l, z⟩ => ⟨l, mono_compWX he _ ds (fun ys w => hq _ w) hE z⟩) hE q⟩
variable {X : Cx} {C : Ct} {W : XW} {elt tg iter : Expr} {scope : Scope} {own : List (Str × Nat)} {is : List Nat} {u : TPA} {pos : Pos} {k : Nat}
theorem run_compX (hu : MonoI u) (he : Mono te) (hi : ∀ i ∈ is, i ∈ own.map (·.2)) {σ : L2.St} {H : Hp} {Q : VK} (h : lN C W (wCompX (own.map (·.2)) u g te) σ H Q) :
    tLcX (fun cls d σ H => W σ cls d H) (lI C W u) (lG C is g) (fun Eb => lV C (fun _ => Eb) te) (own.map (·.2)) σ H Q := by
  obtain ⟨M, r, E, S, hW, q⟩ := h
  refine ⟨W σ, fun _ _ _ h => h, M, r, E, S, hW, hu.imp (fun ds ⟨hl, z⟩ J H1 k1 S1 Y D hD => ?_) (fun _ z => z) q⟩
  have nD : ¬ M D := S1.fresh hD
  have n0 := S1.newH0 hD
  have ntD : ¬ C.inT D := fun t => n0.2 (S1.inm D t)
  have S2 : Sim C (fun a => M a ∨ a = D) r σ (upd H1 D (.lst [])) := S1.take hD (same_upd hD) (by rw [upd_same]; simp)
  have stD : Stp M H1 (fun a => M a ∨ a = D) (upd H1 D (.lst [])) := fun a o e m => ⟨same_upd hD a o e, fun z => z.elim m fun q => by rw [q, hD] at e; cases e⟩
  refine ⟨fun i m H' => m = ds.length - i ∧ i ≤ ds.length ∧ C.Ex H1 H' ∧ Sim C (fun a => M a ∨ a = D) r σ H' ∧ Stp M H1 (fun a => M a ∨ a = D) H' ∧ ∃ acc ys, H' D = some (.lst acc) ∧ C.RpA (fun a => M a ∨ a = D) H' acc ys ∧ ys.length ≤ i ∧
    compWX g te (wipeD r (own.map (·.2))) (ds.drop i) (fun zs => (∀ p H', C.Ex H H' → H p = none → Sim C (fun a => M a ∨ a = p) r σ H' → C.Top (fun a => M a ∨ a = p) H' p (.list (ys ++ zs)) → Q (.ref p) H')) E,
    ⟨ds.length, by simp, Nat.zero_le _, Same.ex (same_upd hD), S2, stD, [], [], upd_same, .nil, Nat.le_refl _, z⟩, ?_⟩
  rintro i m H' ⟨rfl, hle, kx, S', st', acc, ys, eD, pA, ly, z'⟩
  by_cases hlt : i < ds.length
  · refine .inr ⟨Y.go i _ H' st' hlt, fun H2 => C.Ex H1 H2 ∧ Sim C (fun a => M a ∨ a = D) r σ H2 ∧ Stp M H1 (fun a => M a ∨ a = D) H2 ∧ ∃ acc ys, H2 D = some (.lst acc) ∧ C.RpA (fun a => M a ∨ a = D) H2 acc ys ∧ ys.length ≤ i + 1 ∧
      compWX g te (wipeD r (own.map (·.2))) (ds.drop (i + 1)) (fun zs => (∀ p H', C.Ex H H' → H p = none → Sim C (fun a => M a ∨ a = p) r σ H' → C.Top (fun a => M a ∨ a = p) H' p (.list (ys ++ zs)) → Q (.ref p) H')) E, fun H2 h2 => ⟨ds.length - (i + 1), by omega, rfl, hlt, h2⟩, fun x H2 y => ?_⟩
    obtain ⟨d, hd, sm, p⟩ := Y.yld i _ H' x H2 st' S'.dom hlt y
    rw [loop_drop hd] at z'
    obtain ⟨r1, e1, z'⟩ := z'
    have SA := S'.same sm
    have wS := SA.wipe (own.map (·.2))
    refine ⟨_, _, d, r1, wS, p, e1, fun σ3 S3 w3 => ⟨?_, ?_⟩⟩
    · have e := w3 (own.map (·.2)) hi
      rw [e]
      have tw : ∀ (vs ws : List Nat), (∀ v ∈ vs, v ∈ ws) → L2.wipe (L2.wipe σ vs) ws = L2.wipe σ ws := by
        intro vs
        induction vs with
        | nil => intro ws _; rfl
        | cons v vs ih =>
          intro ws hv
          show L2.wipe ((L2.wipe σ vs).set v none) ws = _
          rw [wipe_set (hv v (by simp))]
          exact ih ws fun x hx => hv x (List.mem_cons_of_mem _ hx)
      exact tw _ _ fun _ h => h
    · show lV C (fun _ => W σ) te σ3 H2 _
      have wish : Wish C (fun _ => W σ) (fun a => M a ∨ a = D) r1 σ3 H2 E := fun c H4 k4 S4 ec => by
        have kx4 : C.Ex H' H4 := (Same.ex sm).trans k4
        have SB : Sim C (fun a => M a ∨ a = D) r σ H4 := SA.grow k4 S4.base.tok
        exact hW c H4 ((k1.trans kx).trans kx4) (S1.drop hD SB) ec
      refine ⟨_, r1, E, S3, wish, he.imp (fun yd w vy H5 k5 S5 p5 => ?_) (fun _ z => z) z'⟩
      have kx5 : C.Ex H' H5 := (Same.ex sm).trans k5
      have eD5 : H5 D = some (.lst acc) := kx5 D _ ntD eD
      have SC : Sim C (fun a => M a ∨ a = D) r σ H5 := SA.grow k5 S5.base.tok
      have st5 : Stp M H1 (fun a => M a ∨ a = D) H5 := st'.trans (S'.stp kx5)
      have pA5 : C.RpA (fun a => M a ∨ a = D) H5 acc ys := HC.RpA.step (S'.stp kx5) pA
      refine ⟨acc, eD5, by rw [HC.RpA.length pA]; omega, ?_⟩
      have stU : Stp (fun a => M a ∨ a = D) H5 (fun a => M a ∨ a = D) (upd H5 D (.lst (acc ++ [vy]))) := fun b x e n => ⟨by rw [upd_ne (fun z : b = D => n (.inr z))]; exact e, n⟩
      have SD : Sim C (fun a => M a ∨ a = D) r σ (upd H5 D (.lst (acc ++ [vy]))) := by
        refine ⟨SC.len, fun j dd q => ?_, fun j dd q => ?_, SC.sep, SC.tk, ⟨fun b x n e => ?_, ?_⟩, SC.m0, fun b mb zz => ?_, SC.inm⟩
        · obtain ⟨v, h1, h2⟩ := SC.val j dd q
          exact ⟨v, h1, h2.step stU⟩
        · obtain ⟨a, h1, h2, h3, h4, h5⟩ := SC.own j dd q
          obtain ⟨b, g1, g2, _⟩ := S1.own j dd q
          rw [h1] at g1
          cases g1
          exact ⟨a, h1, h2, h3, h4, h5.step stU fun o zz => by
            rw [upd_ne (fun y : a = D => nD (y ▸ g2))]
            exact zz⟩
        · rw [upd_ne (fun zz : b = D => by rw [zz, n0.1] at e; cases e)]
          exact SC.base.keep b x n e
        · exact tok_step stU (fun b hb => upd_ne (fun z => ntD (z ▸ hb))) SC.base.tok
        · by_cases hb : b = D
          · subst hb; rw [upd_same] at zz; cases zz
          · rw [upd_ne hb] at zz; exact SC.dom b mb zz
      refine ⟨fun b x n e => ?_, SD, st5.trans stU, acc ++ [vy], ys ++ [yd], upd_same, HC.RpA.append (HC.RpA.step stU pA5) (.cons (HC.Rp.step stU p5) .nil), by rw [List.length_append]; show ys.length + 1 ≤ i + 1; omega, ?_⟩
      · rw [upd_ne (fun zz : b = D => by rw [zz, hD] at e; cases e)]
        exact kx5 b x n (kx b x n e)
      · refine mono_compWX he _ _ (fun zs v p H' a b c tp => v p H' a b c ?_) (fun _ z => z) w
        have e : ys ++ [yd] ++ zs = ys ++ yd :: zs := by rw [List.append_assoc]; rfl
        rw [e] at tp
        exact tp
  · have ei : i = ds.length := by omega
    subst ei
    rw [List.drop_length] at z'
    refine .inl ⟨Y.stop _ _ H' st' (Nat.le_refl _), ?_⟩
    have z'' : (∀ p H', C.Ex H H' → H p = none → Sim C (fun a => M a ∨ a = p) r σ H' → C.Top (fun a => M a ∨ a = p) H' p (.list (ys ++ [])) → Q (.ref p) H') := z'
    rw [List.append_nil] at z''
    exact z'' D H' (k1.trans kx) (S1.none_of k1 hD) S' (.lst eD pA)
theorem dn_compX (own : List (Str × Nat)) (G : Good X C W k) (tk : Takes X fun cls d σ H => W σ cls d H) (hi : DI X C W tg iter u) (ok : BlkOk X.N X.env.scope scope own)
    (hg : ∀ (s : Shared) (H : Hp) (Ca : Addr) (cl : List (Str × Addr)) (fp : List Addr), Good (X.blk s H scope (compEnvC scope cl Ca X.env) fp) C W0 k → DG (X.blk s H scope (compEnvC scope cl Ca X.env) fp) C tg is g)
    (he : ∀ (Eb : XK) (s : Shared) (H : Hp) (Ca : Addr) (cl : List (Str × Addr)) (fp : List Addr), DV (X.blkX Eb s H scope (compEnvC scope cl Ca X.env) fp) C (fun _ => Eb) elt te)
    (his : ∀ i ∈ is, i ∈ own.map (·.2) := by decide) (hs : ∀ x, foldedSetIterable iter X.env x = pure x := by intro _; rfl) (hst : X.stack = X.env :: X.outer := by rfl) (hf : X.env.frame = some X.env.locals := by rfl) :
    DN X C W (.ListComp elt [⟨tg, iter, [], 0⟩] scope pos) (wCompX (own.map (·.2)) u g te) := by
  have me : Mono te := (he (fun _ _ _ => False) X.s_0 (fun _ => none) 0 [] []).mo
  refine ⟨(pe_lcX hst hf tk G.calm G.nd hi.pi ok (fun s H Ca cl fp => (hg s H Ca cl fp (G.blk ..)).pg) (fun Eb s H Ca cl fp => (he Eb s H Ca cl fp).pe) hs).imp fun σ H Q h => run_compX hi.mo me his h, mono_compX hi.mo me⟩
end
/-- its element: a call -/
theorem dv_callBk {X : Cx} {C : Ct} {W : XW} {e : Expr} {es : List Expr} {u : TPA} {pos p : Pos} {k j n : Nat} {x : Str} {sp : SpD} (ft : Fit X C) (rm : Room k X.A) (ps : ∀ σ, PassesAt (L2.CX X.prog X.w) X σ (W σ)) (F : FnD X.prog X.w X.K X.mg X.base j x n sp) (ha : DAv X C W (e :: es) u) (hj : j ≤ k := by decide) (hg : Gl X x := by rfl) (hdb : (x == ("__debug__" : Str)) = false := by decide)
    (he : starEach (e :: es) X.env = (false, eval e X.env) :: starEach es X.env := by rfl) (hpl : (backTo pos (starEach es X.env)).any (·.1) = false := by rfl) : DV X C W (.Call (.Name x p) (e :: es) [] pos) (wCall sp u) := by
  refine ⟨?_, mono_call ha.mo F.mo⟩
  obtain ⟨f, fd, pr, hF, hm, hk, hb⟩ := F.ex
  refine (pe_callS (E := W) hF (rm.mono hj) hg hm hk hb ps ha.pa hdb he hpl).imp fun σ H Q ⟨M, r, E, S, hW, q⟩ => ⟨M, r, E, S, hW, ha.mo.imp (fun ds _ z vs H1 k1 S1 p1 => ?_) (fun _ z => z) q⟩
  have fit := ft
  obtain ⟨K, P, w, T, M0, H0⟩ := C
  obtain ⟨a, b, c⟩ := fit
  cases a; cases b; cases c
  exact ⟨M, ds, S1.dom, p1, F.mo.imp (fun d y v H2 s p2 => y v H2 (k1.trans (Same.ex s)) (S1.same s) p2) (fun c y H2 s => hW c H2 (k1.trans (Same.ex s)) (S1.same s) y) z⟩
theorem dv_callX {X : Cx} {C : Ct} {W : XW} {e : Expr} {u : TPA} {pos p : Pos} {k j n : Nat} {x : Str} {sp : SpD} {scope : Scope} {cl : List (Str × Addr)} {Ca : Addr} (G : Good X C W k) (F : FnD X.prog X.w X.K X.mg X.base j x n sp) (Eb : XK) (s : Shared) (H : Hp) (fp : List Addr)
    (ha : DAv (X.blkX Eb s H scope (compEnvC scope cl Ca X.env) fp) C (fun _ => Eb) [e] u) (hj : j ≤ k := by decide) (hg : Gl (X.blkX Eb s H scope (compEnvC scope cl Ca X.env) fp) x := by rfl) (hdb : (x == ("__debug__" : Str)) = false := by decide)
    (he : starEach [e] (compEnvC scope cl Ca X.env) = [(false, eval e (compEnvC scope cl Ca X.env))] := by rfl) :
    DV (X.blkX Eb s H scope (compEnvC scope cl Ca X.env) fp) C (fun _ => Eb) (.Call (.Name x p) [e] [] pos) (wCall sp u) :=
  dv_callBk ⟨G.fit.k, G.fit.p, G.fit.w⟩ G.room (fun σ => blkX_pass σ) F ha hj hg hdb he rfl
end HC
/-! HY9: shorthands for ranges, comprehensions. -/
namespace HC
open PySem PySem.Spec PyProof.Rows L2
theorem rng_ok {n : Nat} (h : n ≤ 1000) : -2 ^ 62 ≤ (n : Int) ∧ (n : Int) < 2 ^ 62 := by
  have e : (2 : Int) ^ 62 = 4611686018427387904 := by decide +kernel
  rw [e]
  omega
/-- a comprehension over range(n), filtered -/
theorem rng_filt {n : Nat} {g : GD} {tt : TB} {te : TP} {r : Env} {Q : List D → Prop} (f : Nat → D) (p : Nat → Bool) (hn : n ≤ 1000)
    (h : ∀ k, k < n → ∃ r1, g (.int (k : Int)) r = some r1 ∧ (∀ Q' : Bool → Prop, Q' (p k) → tt r1 Q' E0') ∧ (p k = true → ∀ Q' : D → Prop, Q' (f k) → te r1 Q' E0'))
    (q : Q (((List.range n).filter p).map f)) : (-2 ^ 62 ≤ (n : Int) ∧ (n : Int) < 2 ^ 62) ∧ (rngD 0 (n : Int).toNat).length ≤ sizeLine ∧ compW g tt te r (rngD 0 (n : Int).toNat) Q := by
  refine ⟨rng_ok hn, ?_⟩
  rw [Int.toNat_natCast, rngD_zero]
  refine ⟨le1000 (by rw [List.length_map, List.length_range]; exact hn), ?_⟩
  exact comp_filt (fun (k : Nat) => D.int (k : Int)) f p _ (fun k hk => h k (List.mem_range.mp hk)) q
/-- .. not filtered -/
theorem rng_comp {n : Nat} {g : GD} {te : TP} {r : Env} {Q : List D → Prop} (f : Nat → D) (hn : n ≤ 1000)
    (h : ∀ k, k < n → ∃ r1, g (.int (k : Int)) r = some r1 ∧ ∀ Q' : D → Prop, Q' (f k) → te r1 Q' E0')
    (q : Q ((List.range n).map f)) : (-2 ^ 62 ≤ (n : Int) ∧ (n : Int) < 2 ^ 62) ∧ (rngD 0 (n : Int).toNat).length ≤ sizeLine ∧ compW g bYes te r (rngD 0 (n : Int).toNat) Q := by
  refine ⟨rng_ok hn, ?_⟩
  rw [Int.toNat_natCast, rngD_zero]
  refine ⟨le1000 (by rw [List.length_map, List.length_range]; exact hn), ?_⟩
  exact comp_enc (fun (k : Nat) => D.int (k : Int)) f _ (fun k hk => h k (List.mem_range.mp hk)) q
/-- a loop over range(n): an invariant of the turns done and the slots -/
theorem rng_loop {n : Nat} {g : GD} {body : TSD} {e : En} {r : Env} (P : Nat → Env → Prop) (hn : n ≤ 1000) (h0 : P 0 r) (hd : ∀ r, P n r → e.nx r)
    (hs : ∀ k r nx, k < n → P k r → (∀ r', P (k + 1) r' → nx r') → ∃ r1, g (.int (k : Int)) r = some r1 ∧ body (e.lp nx) r1) :
    (-2 ^ 62 ≤ (n : Int) ∧ (n : Int) < 2 ^ 62) ∧ loopW g body e (rngD 0 (n : Int).toNat) r := by
  refine ⟨rng_ok hn, ?_⟩
  rw [Int.toNat_natCast, rngD_zero]
  refine loop_gen (fun (k : Nat) => D.int (k : Int)) (fun rest env => ∃ k, k ≤ n ∧ rest = (List.range n).drop k ∧ P k env) _ _ ⟨0, Nat.zero_le _, rfl, h0⟩ ?_ ?_
  · rintro env ⟨k, hk, e1, hp⟩
    have : n ≤ k := by
      have := congrArg List.length e1
      rw [List.length_drop, List.length_range, List.length_nil] at this
      omega
    have : k = n := by omega
    subst this
    exact hd _ hp
  · rintro a rest env ⟨k, hk, e1, hp⟩
    have hlt : k < n := by
      have := congrArg List.length e1
      rw [List.length_drop, List.length_range, List.length_cons] at this
      omega
    rw [List.drop_eq_getElem_cons (by rw [List.length_range]; exact hlt), List.getElem_range] at e1
    obtain ⟨rfl, rfl⟩ := List.cons.inj e1
    refine ⟨(hs a env (fun _ => False ∨ True) hlt hp fun _ _ => .inr trivial).choose, (hs a env (fun _ => False ∨ True) hlt hp fun _ _ => .inr trivial).choose_spec.1, fun go => ?_⟩
    obtain ⟨r1, e1, hb⟩ := hs a env _ hlt hp fun r' h' => go r' ⟨a + 1, hlt, rfl, h'⟩
    rw [(hs a env (fun _ => False ∨ True) hlt hp fun _ _ => .inr trivial).choose_spec.1] at e1
    cases e1
    exact hb
/-- for k in range(n), n written -/
theorem for_rng {n : Nat} {g : GD} {body : TSD} {e : En} {r : Env} (P : Nat → Env → Prop) (hn : n ≤ 1000) (h0 : P 0 r) (hd : ∀ r, P n r → e.nx r)
    (hs : ∀ k r nx, k < n → P k r → (∀ r', P (k + 1) r' → nx r') → ∃ r1, g (.int (k : Int)) r = some r1 ∧ body (e.lp nx) r1) :
    sFor (iRange (wCons (wC (.int (n : Int))) wNil)) g body e r := rng_loop P hn h0 hd hs
/-- for x in a list in a slot -/
theorem for_list {α : Type} {i : Nat} {g : GD} {body : TSD} {e : En} {r : Env} (enc : α → D) (l : List α) (hi : slot r i = .val (.list (l.map enc))) (P : List α → Env → Prop) (h0 : P l r) (hd : ∀ r, P [] r → e.nx r)
    (hs : ∀ a rest r nx, P (a :: rest) r → (∀ r', P rest r' → nx r') → ∃ r1, g (enc a) r = some r1 ∧ body (e.lp nx) r1) :
    sFor (iSeq (wVar i)) g body e r := by
  unfold sFor iSeq wVar
  rw [hi]
  show loopW g body e (l.map enc) r
  refine loop_gen enc P l r h0 hd fun a rest r hp => ?_
  obtain ⟨r1, e1, _⟩ := hs a rest r (fun _ => True) hp fun _ _ => trivial
  refine ⟨r1, e1, fun go => ?_⟩
  obtain ⟨r2, e2, hb⟩ := hs a rest r _ hp go
  rw [e1] at e2
  cases e2
  exact hb
theorem gLen_is {ws : List Int} {Q : D → Prop} : gLen [encIs ws] Q = Q (.int (ws.length : Int)) := by
  rw [encIs, gLen_l, List.length_map]
theorem fIx_at {ds : List D} {k : Nat} {d : D} {Q : D → Prop} (h : ds[k]? = some d) (q : Q d) : fIx (.list ds) (.int (k : Int)) Q := ⟨d, atI_of h, q⟩
theorem fIx_is {ws : List Int} {k : Nat} {w : Int} {Q : D → Prop} (h : ws[k]? = some w) (q : Q (.int w)) : fIx (encIs ws) (.int (k : Int)) Q := ⟨.int w, atI_of (by rw [List.getElem?_map, h]; rfl), q⟩
theorem fIx_map {α : Type} {f : α → D} {l : List α} {k : Nat} {a : α} {Q : D → Prop} (h : l[k]? = some a) (q : Q (f a)) : fIx (.list (l.map f)) (.int (k : Int)) Q := ⟨f a, atI_of (by rw [List.getElem?_map, h]; rfl), q⟩
theorem enc_nat : Enc (fun (k : Nat) => D.int (k : Int)) := fun a b => by rw [deq_int]; simp; omega
theorem fIn_ns {k : Nat} {l : List Nat} {Q : D → Prop} (q : Q (.bool (decide (k ∈ l)))) : fIn (.int (k : Int)) (encNs l) Q := by
  rw [show encNs l = D.list (l.map fun (k : Nat) => D.int (k : Int)) from rfl, fIn_l]
  refine ⟨⟨sh_int' 64 _, (sh_ns l).mono (by decide)⟩, ?_⟩
  rw [dIn_enc enc_nat]
  exact q
end HC
/-! MT2: mark_text, are_marks, format_marks, mark_in, parse_marks. -/
namespace HC
open PySem PySem.Spec PyProof.Rows L2
local macro_rules | `(tactic| walk_at "ds") => `(tactic| try simp only [endD, startD, startT, endLaw, startLaw, List.map_cons, List.map_nil, List.length_cons, List.length_nil, List.replicate, List.cons_append, List.nil_append, Nat.reduceSub, Nat.reduceAdd, sSeq, sRet, sIf, sNil, sAsg, sUnp, sExpr, sPar2, sPar3, xCons, xNil, xVal, xOwn, bTest, bNot, bAnd, bOr, wVar, wPeek, slot, wC, wOp2, wB, wM, wCons, wNil, wTup, wLst, wIf, wAnd, wOr, wNot, wNeg, wCall, wCallT, wSl, wPart, wNoPart, List.set, ex1, gT_t, gT_st, gT_pr, gC_c, gN_c, gNil_c, sRaise, wChain, sFrz, frz, wIsi, wTabIn, wTabAt, sAug, wipeD, En.lp, loopW_nil, d_WEATHERS, ds_WEATHERS, wDisp1, wNewT, wComp, iSeq, iRange, gList_l, sFor, Bool.false_eq_true, if_false, if_true,
  fAdd_i, fAdd_s, fAdd_l, fAdd_t, fAddL_l, fSub_i, fLt_i, fLe_i, fGt_i, fGe_i, fEq_i, fNe_i, fIs_b, fIsN_b, fIs_nn, fIs_in, fIs_ln, fIs_tn, fIsN_nn, fIsN_in, fIsN_ln, fIsN_tn, gMin_2, gMax_2, gLen_l, gLen_t, fIx_rm0, fIx_rm1, fIx_rm2, fIx_st0, fIx_st1, fIx_st2, fIx_rg0, fIx_rg1, fIx_rg2, fSl_rg, fEq_gap, fEq_stay, fEq_late, fEq_look, fEq_lean])
def fitS (d : D) : Prop := fitT d ∧ ∀ z, d = .str z → PyData.strOk z = true
def sp_mark_text : SpD := spOf (fun d : D => [d]) isM (fun d => .str (wordM d))
theorem mo_mark_text : MonoSp 1 sp_mark_text := mo_spOf fun _ => rfl
def sp_are_marks : SpD := spOf (fun d : D => [d]) (fun d => d.plain = true) (fun d => .bool (areM d))
theorem mo_are_marks : MonoSp 1 sp_are_marks := mo_spOf fun _ => rfl
def fmtEx (x : Xc) (d : D) : Ex := if areM d = true then .ok (.str (fmtM (marksD d))) else .error x.badMarks
def sp_format_marks (x : Xc) : SpD := spEx (fun d : D => [d]) (fun d => d.plain = true) (fmtEx x)
theorem mo_format_marks (x : Xc) : MonoSp 1 (sp_format_marks x) := mo_spEx fun _ => rfl
def sp_mark_in (x : Xc) : SpD := spEx (fun z : Str => [.str z]) (fun z => z.length ≤ sizeLine) (fun z => outT x (markS z))
theorem mo_mark_in (x : Xc) : MonoSp 1 (sp_mark_in x) := mo_spEx fun _ => rfl
def sp_parse_marks (x : Xc) : SpD := spEx (fun d : D => [d]) fitS (fun d => outT x (parM d))
theorem mo_parse_marks (x : Xc) : MonoSp 1 (sp_parse_marks x) := mo_spEx fun _ => rfl
def t_mark_text : TSD :=
  sSeq (sIf (bNot (bTest (wIsi "tuple" (wPeek 0)))) (sRet (wOp2 fIx (wC (.str "-+")) (wPeek 0))) sNil)
    (sRet (wOp2 fAdd (wOp2 fIx (wC (.str "-+")) (wOp2 fIx (wPeek 0) (wC (.int 0)))) (wB gStr (wCons (wOp2 fIx (wPeek 0) (wC (.int 1))) wNil))))
def t_are_marks : TSD :=
  sRet (wOr (wCall sp_is_mark_row (wCons (wVar 0) (wCons (wC (.int 10)) (wCons (wC (.int 0)) wNil)))) (wCall sp_is_mark_row (wCons (wVar 0) (wCons (wC (.int 10)) (wCons (wC (.int 1)) wNil)))))
def t_format_marks (x : Xc) : TSD :=
  sSeq (sIf (bNot (bTest (wCall sp_are_marks (wCons (wVar 0) wNil)))) (sRaise x.badMarks) sNil)
    (sRet (wMs gJoin (wC (.str " ")) (wCons (wComp [1] (iSeq (wVar 0)) (gN 1) bYes (wCall sp_mark_text (wCons (wVar 1) wNil))) wNil)))
def t_mark_in (x : Xc) : TSD :=
  sSeq (sIf (bOr (bTest (wOp2 fNotIn (wSlT (wPeek 0) wNoPart (wPart (wC (.int 1)))) (wTup (wCons (wC (.str "-")) (wCons (wC (.str "+")) wNil))))) (bTest (wOp2 fNotIn (wSlT (wPeek 0) (wPart (wC (.int 1))) wNoPart) (wOp2 fAdd (wTup (wCons (wC (.str "")) wNil)) (wC d_HEATS))))) (sRaise x.badText) sNil)
    (sSeq (sAsg 1 (xVal (wMs gSIndex (wC (.str "-+")) (wCons (wOp2 fIx (wPeek 0) (wC (.int 0))) wNil))))
    (sRet (wIf (bTest (wOp2 fEq (wB gLen (wCons (wPeek 0) wNil)) (wC (.int 1)))) (wVar 1) (wTup (wCons (wVar 1) (wCons (wTIndex ns_HEATS (wCons (wSlT (wPeek 0) (wPart (wC (.int 1))) wNoPart) wNil)) wNil))))))
def t_parse_marks (x : Xc) : TSD :=
  sSeq (sExpr (wCall (sp_check_text x) (wCons (wVar 0) wNil)))
    (sSeq (sAsg 1 (xVal (wIf (bTest (wOp2 fNe (wPeek 0) (wC (.str "")))) (wCompX [2] (iSeq (wMs gSplit (wPeek 0) (wCons (wC (.str " ")) wNil))) (gN 2) (wCall (sp_mark_in x) (wCons (wVar 2) wNil))) (wLst wNil))))
    (sSeq (sIf (bNot (bTest (wCall sp_are_marks (wCons (wVar 1) wNil)))) (sRaise x.badText) sNil)
    (sRet (wVar 1))))
section
variable {Q : D → Prop} {E : Addr → Prop}
theorem fNotIn_tp {d : D} {ds : List D} : fNotIn d (.tuple ds) Q = ((d.flat = true ∧ ds.all D.flat = true) ∧ Q (.bool (!dIn d ds))) := by cases d <;> rfl
theorem sgn_at (s : Nat) (h : s < 2) (q : Q (.str (sgnS (s : Int)))) : fIx (.str "-+") (.int (s : Int)) Q := by
  have hs : s = 0 ∨ s = 1 := by omega
  rcases hs with rfl | rfl
  · exact ⟨45, by decide, rfl, q⟩
  · exact ⟨43, by decide, rfl, q⟩
end
theorem sem_mark_text : ∀ ds Q E, sp_mark_text ds Q E → t_mark_text (endD Q E) (startD 1 ds) := by
  rintro _ Q E ⟨d, rfl, hm, q⟩
  replace q : Q (.str (wordM d)) := q
  unfold t_mark_text
  walk_at "ds"
  rcases hm with ⟨s, hs, rfl⟩ | ⟨s, h, hs, hh, rfl⟩
  · refine ⟨false, rfl, ite_t rfl ?_⟩
    exact sgn_at s hs q
  · refine ⟨true, rfl, ite_f rfl ?_⟩
    refine ⟨_, rfl, sgn_at s hs ?_⟩
    refine ⟨_, rfl, ?_⟩
    refine ⟨?_, ?_⟩
    · show (h : Int).natAbs.log2 < 1920
      have : ∀ h : Nat, h < 11 → (h : Int).natAbs.log2 < 1920 := by decide +kernel
      exact this h hh
    · show fAdd (.str (sgnS (s : Int))) (.str ((toString (h : Int) : String) : Str)) Q
      rw [fAdd_s]
      refine ⟨?_, q⟩
      have : ∀ s : Nat, s < 2 → ∀ h : Nat, h < 11 → (sgnS (s : Int)).length + ((toString (h : Int) : String) : Str).length ≤ 1000 := by decide +kernel
      exact le1000 (this s hs h hh)
theorem sem_are_marks : ∀ ds Q E, sp_are_marks ds Q E → t_are_marks (endD Q E) (startD 1 ds) := by
  rintro _ Q E ⟨d, rfl, hp, q⟩
  replace q : Q (.bool (areM d)) := q
  unfold t_are_marks
  walk_at "ds"
  refine in_is_mark_row hp ?_
  unfold areM at q
  cases h : isMrowF d 10 0 with
  | true =>
    rw [h] at q
    exact ite_t rfl q
  | false =>
    rw [h] at q
    exact ite_f rfl (in_is_mark_row hp q)
theorem in_are {d : D} {Q : D → Prop} {E : Addr → Prop} (h : d.plain = true) (q : Q (.bool (areM d))) : sp_are_marks [d] Q E := ⟨d, rfl, h, q⟩
theorem in_mtext {d : D} {Q : D → Prop} {E : Addr → Prop} (h : isM d) (q : Q (.str (wordM d))) : sp_mark_text [d] Q E := ⟨d, rfl, h, q⟩
/-- " ".join of the words -/
theorem join_marks {ds : List D} {Q : D → Prop} (hl : ds.length ≤ 61) (hm : ∀ m ∈ ds, isM m) (q : Q (.str (fmtM ds))) : gJoin " " [.list (ds.map fun d => .str (wordM d))] Q := by
  refine ⟨ds.map wordM, ?_, ?_, q⟩
  · have := strs_map (ds.map wordM)
    rw [List.map_map] at this
    exact this
  · rw [List.length_map, List.map_map]
    have h1 : (ds.map ((fun z : Str => z.length) ∘ wordM)).sum ≤ (ds.map ((fun z : Str => z.length) ∘ wordM)).length * 3 := sum_le fun n hn => by
      obtain ⟨m, h, rfl⟩ := List.mem_map.mp hn
      exact (okWd_iff (word_ok (hm m h))).1
    rw [List.length_map] at h1
    have h2 : (" " : Str).length = 1 := by decide
    rw [h2]
    omega
theorem sem_format_marks (x : Xc) : ∀ ds Q E, sp_format_marks x ds Q E → t_format_marks x (endD Q E) (startD 2 ds) := by
  rintro _ Q E ⟨d, rfl, hp, q⟩
  replace q : outE Q E (fmtEx x d) := q
  unfold t_format_marks
  unfold fmtEx at q
  refine seq_g fun n1 g1 => ?_
  walk_at "ds"
  refine in_are hp ?_
  cases h : areM d with
  | false =>
    rw [h] at q
    exact ite_t rfl q
  | true =>
    rw [h] at q
    refine ite_f rfl (g1 _ ?_)
    clear g1
    obtain ⟨ds, rfl, hl, hm⟩ := areM_is h
    unfold wMs
    walk_at "ds"
    refine ⟨le1000 (by omega), ?_⟩
    refine comp_map (fun d => .str (wordM d)) _ (fun m hmm => ⟨_, rfl, fun Q' q' => ?_⟩) ?_
    · walk_at "ds"
      exact in_mtext (hm m hmm) q'
    exact join_marks (by omega) hm q

/-! ### a word read -/
def hdW (z : Str) : Str := cutS z none (some 1)
def tlW (z : Str) : Str := cutS z (some 1) none
theorem hd_tl (z : Str) : hdW z ++ tlW z = z := by
  refine cds_inj ?_
  rw [cds_app]
  show (z.cps.toList.drop (HT.sIx z.length 0 none)).take (HT.sIx z.length z.length (some 1) - HT.sIx z.length 0 none) ++ (z.cps.toList.drop (HT.sIx z.length 0 (some 1))).take (HT.sIx z.length z.length none - HT.sIx z.length 0 (some 1)) = cds z
  have hl : z.cps.toList.length = z.length := cds_len z
  have e0 : HT.sIx z.length 0 none = 0 := rfl
  have e1 : HT.sIx z.length z.length none = z.length := rfl
  have e2 : ∀ d, HT.sIx z.length d (some 1) = min 1 z.length := fun d => by
    unfold HT.sIx
    first
      | (simp; done)
      | (simp; omega)
      | (split <;> omega)
  rw [e0, e1, e2, e2, List.drop_zero, Nat.sub_zero]
  rw [List.take_of_length_le (l := z.cps.toList.drop (min 1 z.length)) (by rw [List.length_drop, hl]; omega)]
  exact List.take_append_drop _ _
def sgN (a : Str) : Nat := if a = "-" then 0 else 1
def chkIn (a b : Str) : Bool := decide ((a ++ b).length ≤ 3) && ((match atI (a ++ b).cps.toList 0 with
    | some c => (match PySem.Builtin.Str.occurrences "-+" ⟨#[c]⟩ 0 2 1 with
      | i :: _ => decide (i = sgN a)
      | [] => false)
    | none => false) && ((decide (((a ++ b).length : Int) = 1) == decide (b = "")) && (match markS (a ++ b) with
    | some (.int i) => decide (b = "") && decide (i = (sgN a : Nat))
    | some (.tuple [.int i, .int j]) => decide (b ≠ "") && (decide (i = (sgN a : Nat)) && (match idxS b ns_HEATS with
      | some j' => decide (j = (j' : Nat))
      | none => false))
    | _ => false)))
theorem chkIn_all : ∀ a ∈ (["-", "+"] : List Str), ∀ b ∈ ("" : Str) :: ns_HEATS, chkIn a b = true := by decide +kernel
def chkC (z : Str) : Bool := decide (hdW z ∈ (["-", "+"] : List Str)) && decide (tlW z ∈ ("" : Str) :: ns_HEATS)
theorem chkCA : ∀ s : Nat, s < 2 → chkC (wordM (.int (s : Int))) = true := by decide +kernel
theorem chkCB : ∀ s : Nat, s < 2 → ∀ h : Nat, h < 11 → chkC (wordM (.tuple [.int (s : Int), .int (h : Int)])) = true := by decide +kernel
theorem mark_parts {z : Str} {d : D} (hz : markS z = some d) : hdW z ∈ (["-", "+"] : List Str) ∧ tlW z ∈ ("" : Str) :: ns_HEATS := by
  obtain ⟨e, hm⟩ := word_mark hz
  have : chkC z = true := by
    rw [← e]
    rcases hm with ⟨s, hs, rfl⟩ | ⟨s, h, hs, hh, rfl⟩
    · exact chkCA s hs
    · exact chkCB s hs h hh
  unfold chkC at this
  rw [Bool.and_eq_true] at this
  exact ⟨of_decide_eq_true this.1, of_decide_eq_true this.2⟩
theorem sem_mark_in (x : Xc) : ∀ ds Q E, sp_mark_in x ds Q E → t_mark_in x (endD Q E) (startD 2 ds) := by
  rintro _ Q E ⟨z, rfl, hz, q⟩
  replace q : outE Q E (outT x (markS z)) := q
  unfold t_mark_in
  refine seq_g fun n1 g1 => ?_
  unfold wSlT
  walk_at "ds"
  have t1 : dIn (.str (hdW z)) [.str "-", .str "+"] = decide (hdW z ∈ (["-", "+"] : List Str)) := dIn_enc enc_str (hdW z) ["-", "+"]
  have t2 : dIn (.str (tlW z)) (.str "" :: ds_HEATS) = decide (tlW z ∈ ("" : Str) :: ns_HEATS) := dIn_enc enc_str (tlW z) (("" : Str) :: ns_HEATS)
  have no : (hdW z ∉ (["-", "+"] : List Str) ∨ tlW z ∉ ("" : Str) :: ns_HEATS) → E x.badText := fun h => by
    cases hm : markS z with
    | none => rw [hm] at q; exact q
    | some d =>
      have := mark_parts hm
      rcases h with h | h
      · exact absurd this.1 h
      · exact absurd this.2 h
  refine ⟨hz, ?_⟩
  show fNotIn (.str (hdW z)) (.tuple [.str "-", .str "+"]) _
  rw [fNotIn_tp]
  refine ⟨⟨rfl, rfl⟩, ?_⟩
  rw [t1]
  by_cases c1 : hdW z ∈ (["-", "+"] : List Str)
  · rw [decide_eq_true c1]
    refine ite_f rfl ?_
    refine ⟨hz, ?_⟩
    show fAdd (.tuple [.str ""]) (.tuple ds_HEATS) _
    rw [fAdd_t]
    refine ⟨by decide, ?_⟩
    show fNotIn (.str (tlW z)) (.tuple (.str "" :: ds_HEATS)) _
    rw [fNotIn_tp]
    refine ⟨⟨rfl, rfl⟩, ?_⟩
    rw [t2]
    by_cases c2 : tlW z ∈ ("" : Str) :: ns_HEATS
    · rw [decide_eq_true c2]
      refine ite_f rfl (g1 _ ?_)
      clear g1
      have hc := chkIn_all _ c1 _ c2
      unfold chkIn at hc
      rw [hd_tl, Bool.and_eq_true, Bool.and_eq_true, Bool.and_eq_true] at hc
      obtain ⟨_, h2, h3, h4⟩ := hc
      generalize hdW z = a at c1 h2 h3 h4
      have et : cutS z (some 1) none = tlW z := rfl
      generalize tlW z = b at c2 h2 h3 h4 et
      cases hat : atI z.cps.toList 0 with
      | none => rw [hat] at h2; cases h2
      | some c =>
        rw [hat] at h2
        simp only at h2
        split at h2
        · rename_i i rest ho
          have hi := of_decide_eq_true h2
          refine seq_g fun n2 g2 => ?_
          unfold wMs
          walk_at "ds"
          refine ⟨c, hz, hat, ?_⟩
          refine ⟨i, rest, ho, g2 _ ?_⟩
          clear g2
          subst hi
          unfold wTIndex wSlT
          walk_at "ds"
          refine ⟨hz, ?_⟩
          show fEq (.int (z.length : Int)) (.int 1) _
          rw [fEq_i]
          have h3 : decide ((z.length : Int) = 1) = decide (b = "") := by simpa using h3
          rw [h3]
          by_cases cb : b = ""
          · rw [decide_eq_true cb]
            refine ite_t rfl ?_
            split at h4
            · rename_i j hm
              rw [hm] at q
              rw [Bool.and_eq_true] at h4
              rw [of_decide_eq_true h4.2] at q
              exact q
            · rw [Bool.and_eq_true] at h4
              exact absurd cb (of_decide_eq_true h4.1)
            · cases h4
          · rw [decide_eq_false cb]
            refine ite_f rfl ?_
            refine ⟨hz, ?_⟩
            rw [et]
            split at h4
            · rw [Bool.and_eq_true] at h4
              exact absurd (of_decide_eq_true h4.1) cb
            · rename_i j k hm
              rw [hm] at q
              rw [Bool.and_eq_true, Bool.and_eq_true] at h4
              obtain ⟨_, h5, h6⟩ := h4
              split at h6
              · rename_i k' hk
                have e1 := of_decide_eq_true h5
                have e2 := of_decide_eq_true h6
                subst e1 e2
                exact ⟨k', (idxS_some hk).1, (idxS_some hk).2, q⟩
              · cases h6
            · cases h4
        · cases h2
    · rw [decide_eq_false c2]
      exact ite_t rfl (no (.inr c2))
  · rw [decide_eq_false c1]
    exact ite_t rfl (no (.inl c1))

theorem in_markin {x : Xc} {z : Str} {Q : D → Prop} {E : Addr → Prop} (h : z.length ≤ sizeLine) (q : outE Q E (outT x (markS z))) : sp_mark_in x [.str z] Q E := ⟨z, rfl, h, q⟩
theorem isM_plain {d : D} (h : isM d) : d.plain = true := by
  rcases h with ⟨s, hs, rfl⟩ | ⟨s, h, hs, hh, rfl⟩ <;> rfl
theorem marks_plain {ds : List D} (h : ∀ m ∈ ds, isM m) : (D.list ds).plain = true := plains_iff fun d hd => isM_plain (h d hd)
/-- the words read, one by one -/
theorem read_words {x : Xc} {r : Env} : ∀ (ws : List Str) {Q : List D → Prop} {E : Addr → Prop}, (∀ w ∈ ws, w.length ≤ sizeLine) → (match ws.mapM markS with
    | some ds => Q ds
    | none => E x.badText) → compWX (gN 2) (wCall (sp_mark_in x) (wCons (wVar 2) wNil)) [r[0]?.getD .un, r[1]?.getD .un, .un] (ws.map D.str) Q E
  | [], Q, E, _, q => q
  | w :: ws, Q, E, hl, q => by
    refine ⟨_, rfl, ?_⟩
    walk_at "ds"
    refine in_markin (hl w List.mem_cons_self) ?_
    rw [List.mapM_cons] at q
    cases h1 : markS w with
    | none =>
      rw [h1] at q
      exact q
    | some d =>
      rw [h1] at q
      refine read_words ws (fun v hv => hl v (List.mem_cons_of_mem _ hv)) ?_
      cases h2 : ws.mapM markS with
      | none => rw [h2] at q; exact q
      | some ds => rw [h2] at q; exact q
theorem split_lens {z : Str} : ∀ w ∈ Txt.split z " ", w.length ≤ z.length := fun w hw => by
  have e := join_split' z 32
  rw [← sp_is] at e
  have key : ∀ (ws : List Str), w ∈ ws → w.length ≤ (Txt.join " " ws).length := by
    intro ws
    induction ws with
    | nil => intro h; cases h
    | cons v ws ih =>
      intro h
      cases ws with
      | nil =>
        have : Txt.join " " [v] = v := by rw [join_eq]; rfl
        rw [this, List.mem_singleton.mp h]
        exact Nat.le_refl _
      | cons u us =>
        have el : (Txt.join " " (v :: u :: us)).length = v.length + (" " : Str).length + (Txt.join " " (u :: us)).length := by
          rw [← cds_len, cds_join1, List.length_append, List.length_append, cds_len, cds_len, cds_len]
        rw [el]
        rcases List.mem_cons.mp h with rfl | h
        · omega
        · have := ih h
          omega
  have := key _ hw
  rw [e] at this
  exact this
theorem sem_parse_marks (x : Xc) : ∀ ds Q E, sp_parse_marks x ds Q E → t_parse_marks x (endD Q E) (startD 3 ds) := by
  rintro _ Q E ⟨a, rfl, hp, q⟩
  unfold t_parse_marks
  refine seq_g fun n1 h1 => ?_
  walk_at "ds"
  refine on_text (o := fun z => parM (.str z)) (Q := Q) hp.1.pl (by cases a <;> exact q) fun z ea q1 => h1 _ ?_
  clear q h1
  subst ea
  have hz := hp.1.2 z rfl
  have ho := hp.2 z rfl
  replace q1 : outE Q E (outT x (parM (.str z))) := q1
  rw [parM_s] at q1
  have fin : ∀ ds : List D, (D.list ds).plain = true → readM z = some ds → (sSeq (sIf (bNot (bTest (wCall sp_are_marks (wCons (wVar 1) wNil)))) (sRaise x.badText) sNil) (sRet (wVar 1))) (endD Q E) [.val (.str z), .val (.list ds), .un] := fun ds hd hr => by
    rw [hr] at q1
    simp only at q1
    refine seq_g fun n3 h3 => ?_
    walk_at "ds"
    refine in_are hd ?_
    cases ha : areM (.list ds) with
    | false =>
      rw [ha] at q1
      exact ite_t rfl q1
    | true =>
      rw [ha] at q1
      exact ite_f rfl (h3 _ q1)
  refine seq_g fun n2 h2 => ?_
  replace h2 : ∀ ds : List D, (D.list ds).plain = true → readM z = some ds → n2 [.val (.str z), .val (.list ds), .un] := fun ds hd hr => h2 _ (fin ds hd hr)
  clear fin
  unfold wCompX
  walk_at "ds"
  refine fNe_any (sh_str ho) (sh_str (by decide +kernel)) ?_
  rw [deq_str]
  by_cases c : z = ""
  · rw [decide_eq_true c]
    refine ite_f rfl ?_
    exact h2 [] rfl (by unfold readM; rw [if_pos c])
  · rw [decide_eq_false c]
    refine ite_t rfl ?_
    unfold wMs
    walk_at "ds"
    refine ⟨rfl, hz, ?_⟩
    refine ⟨by rw [List.length_map]; have := split_le z (" " : Str); omega, ?_⟩
    refine read_words (x := x) (r := [.val (.str z), .un, .un]) (Txt.split z " ") (fun w hw => by have := split_lens (z := z) w hw; omega) ?_
    have er : readM z = (Txt.split z " ").mapM markS := by unfold readM; rw [if_neg c]
    cases hm : (Txt.split z " ").mapM markS with
    | some ds => exact h2 ds (marks_plain (mapM_marks hm).2) (er.trans hm)
    | none =>
      rw [er, hm] at q1
      exact q1
end HC
/-! S16a: the law k16, its parts. -/
namespace HC
open PySem PySem.Spec PyProof.Rows L2
local macro_rules | `(tactic| walk_at "ds") => `(tactic| try simp only [endD, startD, startT, endLaw, startLaw, List.map_cons, List.map_nil, List.length_cons, List.length_nil, List.replicate, List.cons_append, List.nil_append, Nat.reduceSub, Nat.reduceAdd, sSeq, sRet, sIf, sNil, sAsg, sUnp, sExpr, sPar2, sPar3, xCons, xNil, xVal, xOwn, bTest, bNot, bAnd, bOr, wVar, wPeek, slot, wC, wOp2, wB, wM, wCons, wNil, wTup, wLst, wIf, wAnd, wOr, wNot, wNeg, wCall, wCallT, wSl, wPart, wNoPart, List.set, ex1, gT_t, gT_st, gT_pr, gC_c, gN_c, gNil_c, sRaise, wChain, sFrz, frz, wIsi, wTabIn, wTabAt, sAug, wipeD, En.lp, loopW_nil, d_WEATHERS, ds_WEATHERS, wDisp1, wNewT, wComp, iSeq, iRange, gList_l, sFor, Bool.false_eq_true, if_false, if_true,
  fAdd_i, fAdd_s, fAdd_l, fAdd_t, fAddL_l, fSub_i, fLt_i, fLe_i, fGt_i, fGe_i, fEq_i, fNe_i, fIs_b, fIsN_b, fIs_nn, fIs_in, fIs_ln, fIs_tn, fIsN_nn, fIsN_in, fIsN_ln, fIsN_tn, gMin_2, gMax_2, gLen_l, gLen_t, fIx_rm0, fIx_rm1, fIx_rm2, fIx_st0, fIx_st1, fIx_st2, fIx_rg0, fIx_rg1, fIx_rg2, fSl_rg, fEq_gap, fEq_stay, fEq_late, fEq_look, fEq_lean])
def sp__law_parsed (x : Xc) : SpD := spOf (fun d : D => [d]) fitS (fun d => told x (outT x (parM d)))
theorem mo__law_parsed (x : Xc) : MonoSp 1 (sp__law_parsed x) := mo_spOf fun _ => rfl
def sp__law_written (x : Xc) : SpD := spOf (fun d : D => [d]) (fun d => d.plain = true) (fun d => told x (fmtEx x d))
theorem mo__law_written (x : Xc) : MonoSp 1 (sp__law_written x) := mo_spOf fun _ => rfl
def sp__law_words : SpD := spOf (fun ds : List D => [.list ds]) (fun ds => ds.length ≤ 60 ∧ ∀ m ∈ ds, isM m) (fun ds => .str (fmtM ds))
theorem mo__law_words : MonoSp 1 sp__law_words := mo_spOf fun _ => rfl
def sp__law_rejected (x : Xc) : SpD := spOf (fun _ : Unit => []) (fun _ => True) (fun _ => .bool true)
theorem mo__law_rejected (x : Xc) : MonoSp 0 (sp__law_rejected x) := mo_spOf fun _ => rfl
def t__law_parsed (x : Xc) : TSD :=
  sSeq (sAsg 1 (xVal (wC .none)))
    (sSeq (sAsg 2 (xVal (wC .none)))
    (sSeq (sTry x.has 2 3 (sAsg 1 (xVal (wCall (sp_parse_marks x) (wCons (wVar 0) wNil)))))
    (sRet (wIf (bTest (wOp2 fIs (wPeek 2) (wC .none))) (wVar 1) (wCall (sp__law_error x) (wCons (wVar 2) wNil))))))
def t__law_written (x : Xc) : TSD :=
  sSeq (sAsg 1 (xVal (wC .none)))
    (sSeq (sAsg 2 (xVal (wC .none)))
    (sSeq (sTry x.has 2 3 (sAsg 1 (xVal (wCall (sp_format_marks x) (wCons (wVar 0) wNil)))))
    (sRet (wIf (bTest (wOp2 fIs (wPeek 2) (wC .none))) (wVar 1) (wCall (sp__law_error x) (wCons (wVar 2) wNil))))))
def t__law_words : TSD :=
  sRet (wMs gJoin (wC (.str " ")) (wCons (wComp [1] (iSeq (wVar 0)) (gN 1) bYes (wIf (bTest (wIsi "tuple" (wPeek 1))) (wOp2 fAdd (wOp2 fIx (wC (.str "-+")) (wOp2 fIx (wPeek 1) (wC (.int 0)))) (wB gStr (wCons (wOp2 fIx (wPeek 1) (wC (.int 1))) wNil))) (wOp2 fIx (wC (.str "-+")) (wPeek 1)))) wNil))
def t__law_rejected (x : Xc) : TSD :=
  sSeq (sAsg 0 (xVal (wLst (wCons (wC .none) (wCons (wC (.int 5)) (wCons (wC (.str " ")) (wCons (wC (.str "+ ")) (wCons (wC (.str " +")) (wCons (wC (.str "+  -")) (wCons (wC (.str "0")) (wCons (wC (.str "1")) (wCons (wC (.str "++")) (wCons (wC (.str "+-")) (wCons (wC (.str "+11")) (wCons (wC (.str "+-1")) (wCons (wC (.str "+05")) (wCons (wC (.str "5+")) (wCons (wC (.str "+5 -")) (wCons (wC (.str "+ -3")) (wCons (wC (.str "x")) (wCons (wC (.str "+5,-3")) (wCons (wC (.str "+\n")) (wCons (wLst (wCons (wC (.str "+")) wNil)) (wCons (wC (.str "+5 ")) (wCons (wC (.str "+010")) (wCons (wC (.str "+ 5")) (wCons (wC (.str "plus")) (wCons (wC (.str "--")) wNil))))))))))))))))))))))))))))
    (sSeq (sAsg 0 (xVal (wOp2 fAdd (wPeek 0) (wLst (wCons (wMs gJoin (wC (.str " ")) (wCons (wOp2 fMulT (wLst (wCons (wC (.str "+")) wNil)) (wC (.int 61))) wNil)) (wCons (wMs gJoin (wC (.str " ")) (wCons (wOp2 fMulT (wLst (wCons (wC (.str "-0")) wNil)) (wC (.int 61))) wNil)) (wCons (wOp2 fAdd (wC (.str "+")) (wOp2 fMulT (wC (.str "1")) (wC (.int 4000)))) wNil)))))))
    (sSeq (sIf (bOr (bTest (wOp2 fNe (wComp [2] (iSeq (wVar 0)) (gN 2) bYes (wCall (sp__law_parsed x) (wCons (wVar 2) wNil))) (wOp2 fMulT (wLst (wCons (wC (.str "text")) wNil)) (wC (.int 28))))) (bOr (bTest (wOp2 fNe (wCall (sp__law_parsed x) (wCons (wC (.str "")) wNil)) (wLst wNil))) (bTest (wOp2 fNe (wB gLen (wCons (wCall (sp__law_parsed x) (wCons (wMs gJoin (wC (.str " ")) (wCons (wOp2 fMulT (wLst (wCons (wC (.str "-10")) wNil)) (wC (.int 60))) wNil)) wNil)) wNil)) (wC (.int 60)))))) (sRet (wC (.bool false))) sNil)
    (sSeq (sAsg 1 (xVal (wLst (wCons (wC .none) (wCons (wC (.int 5)) (wCons (wC (.str "+")) (wCons (wTup (wCons (wC (.int 0)) (wCons (wC (.int 1)) wNil))) (wCons (wLst (wCons (wC (.int 2)) wNil)) (wCons (wLst (wCons (wNeg (wC (.int 1))) wNil)) (wCons (wLst (wCons (wC (.bool true)) wNil)) (wCons (wLst (wCons (wC .none) wNil)) (wCons (wLst (wCons (wC (.str "+")) wNil)) (wCons (wLst (wCons (wTup (wCons (wC (.int 0)) wNil)) wNil)) (wCons (wLst (wCons (wTup (wCons (wC (.int 0)) (wCons (wC (.int 0)) (wCons (wC (.int 0)) wNil)))) wNil)) (wCons (wLst (wCons (wTup (wCons (wC (.int 2)) (wCons (wC (.int 0)) wNil))) wNil)) (wCons (wLst (wCons (wTup (wCons (wC (.int 0)) (wCons (wC (.int 11)) wNil))) wNil)) (wCons (wLst (wCons (wTup (wCons (wC (.int 0)) (wCons (wC (.bool true)) wNil))) wNil)) (wCons (wLst (wCons (wLst (wCons (wC (.int 0)) (wCons (wC (.int 0)) wNil))) wNil)) (wCons (wLst (wCons (wC (.int 0)) (wCons (wTup (wCons (wC (.int 0)) (wCons (wC (.int 0)) wNil))) wNil))) (wCons (wLst (wCons (wTup (wCons (wC (.int 0)) (wCons (wC (.int 0)) wNil))) (wCons (wC (.int 0)) wNil))) (wCons (wOp2 fMulT (wLst (wCons (wC (.int 0)) wNil)) (wC (.int 61))) (wCons (wOp2 fMulT (wLst (wCons (wTup (wCons (wC (.int 0)) (wCons (wC (.int 0)) wNil))) wNil)) (wC (.int 61))) wNil))))))))))))))))))))))
    (sSeq (sIf (bTest (wOp2 fNe (wComp [2] (iSeq (wOp2 fAdd (wPeek 1) (wLst (wCons (wLst (wCons (wC (.int 0)) (wCons (wC (.int 1)) (wCons (wC (.int 0)) (wCons (wC (.int 1)) (wCons (wC (.int 2)) wNil)))))) (wCons (wOp2 fAdd (wOp2 fMulT (wLst (wCons (wTup (wCons (wC (.int 0)) (wCons (wC (.int 0)) wNil))) wNil)) (wC (.int 4))) (wLst (wCons (wTup (wCons (wC (.int 0)) (wCons (wC (.int 11)) wNil))) wNil))) wNil))))) (gN 2) bYes (wCall (sp__law_written x) (wCons (wVar 2) wNil))) (wOp2 fMulT (wLst (wCons (wC (.str "marks")) wNil)) (wC (.int 21))))) (sRet (wC (.bool false))) sNil)
    (sRet (wAnd (wOp2 fEq (wCall (sp__law_written x) (wCons (wLst wNil) wNil)) (wC (.str ""))) (wAnd (wOp2 fEq (wCall (sp__law_written x) (wCons (wOp2 fMulT (wLst (wCons (wC (.int 1)) wNil)) (wC (.int 60))) wNil)) (wMs gJoin (wC (.str " ")) (wCons (wOp2 fMulT (wLst (wCons (wC (.str "+")) wNil)) (wC (.int 60))) wNil))) (wOp2 fEq (wCall (sp__law_parsed x) (wCons (wC (.str "+5 -3")) wNil)) (wLst (wCons (wTup (wCons (wC (.int 1)) (wCons (wC (.int 5)) wNil))) (wCons (wTup (wCons (wC (.int 0)) (wCons (wC (.int 3)) wNil))) wNil)))))))))))
def t_law (x : Xc) : TSD :=
  sSeq (sPar2 2 3 (xCons (xVal (wCallT 1 sp__law_room wNil)) (xCons (xVal (wCallT 1 sp__law_draw (wCons (wC (.int 2)) wNil))) xNil)))
    (sSeq (sAsg 4 (xVal (wCall (sp_marks_of x) (wCons (wVar 2) (wCons (wCallT 1 sp__law_regulator (wCons (wVar 2) wNil)) (wCons (wCallT 1 sp__law_row (wCons (wC (.int 20)) wNil)) (wCons (wVar 3) wNil)))))))
    (sSeq (sAsg 5 (xVal (wCall (sp_format_marks x) (wCons (wVar 4) wNil))))
    (sSeq (sIf (bOr (bTest (wOp2 fNe (wPeek 5) (wCall sp__law_words (wCons (wVar 4) wNil)))) (bTest (wOp2 fNe (wCall (sp__law_parsed x) (wCons (wVar 5) wNil)) (wPeek 4)))) (sRet (wC (.bool false))) sNil)
    (sSeq (sAsg 6 (xVal (wIf (bTest (wOp2 fNe (wPeek 5) (wC (.str "")))) (wMs gSplit (wPeek 5) (wCons (wC (.str " ")) wNil)) (wLst wNil))))
    (sSeq (sAsg 7 (xVal (wLst (wCons (wC (.str "+")) (wCons (wC (.str "-")) (wCons (wC (.str "+0")) (wCons (wC (.str "-10")) (wCons (wC (.str "+11")) (wCons (wC (.str "5")) (wCons (wC (.str "")) (wCons (wC (.str "+-")) (wCons (wC (.str "-7")) (wCons (wC (.str "++")) wNil)))))))))))))
    (sSeq (sFor (iRange (wCons (wC (.int 16)) wNil)) (gN 8) (sSeq (sPar2 9 10 (xCons (xVal (wCallT 1 sp__law_draw (wCons (wOp2 fAdd (wB gLen (wCons (wPeek 6) wNil)) (wC (.int 1))) wNil))) (xCons (xVal (wCallT 1 sp__law_pick (wCons (wVar 7) wNil))) xNil)))
    (sSeq (sAsg 11 (xVal (wLst (wCons (wOp2 fAdd (wOp2 fAdd (wSlT (wPeek 6) wNoPart (wPart (wPeek 9))) (wLst (wCons (wVar 10) wNil))) (wSlT (wPeek 6) (wPart (wOp2 fAdd (wPeek 9) (wC (.int 1)))) wNoPart)) (wCons (wOp2 fAdd (wOp2 fAdd (wSlT (wPeek 6) wNoPart (wPart (wPeek 9))) (wLst (wCons (wVar 10) wNil))) (wSlT (wPeek 6) (wPart (wPeek 9)) wNoPart)) (wCons (wOp2 fAdd (wSlT (wPeek 6) wNoPart (wPart (wPeek 9))) (wSlT (wPeek 6) (wPart (wOp2 fAdd (wPeek 9) (wC (.int 1)))) wNoPart)) wNil))))))
    (sSeq (sAsg 12 (xVal (wMs gJoin (wC (.str " ")) (wCons (wCallT 1 sp__law_pick (wCons (wVar 11) wNil)) wNil))))
    (sSeq (sAsg 13 (xVal (wCall (sp__law_parsed x) (wCons (wVar 12) wNil))))
    (sIf (bAnd (bTest (wOp2 fNe (wPeek 13) (wC (.str "text")))) (bOr (bTest (wOp2 fNe (wCall sp__law_words (wCons (wVar 13) wNil)) (wPeek 12))) (bTest (wOp2 fNe (wCall (sp__law_written x) (wCons (wVar 13) wNil)) (wPeek 12))))) (sRet (wC (.bool false))) sNil))))))
    (sRet (wCall (sp__law_rejected x) wNil))))))))
theorem raises_outT (x : Xc) (o : Option D) : Raises x (outT x o) := by
  cases o with
  | none => exact has_text
  | some d => trivial
theorem mul_cds (c n : Nat) (h : 2 ≤ n) : Txt.mul ⟨#[c]⟩ (n : Int) = ⟨(List.replicate n c).toArray⟩ := by
  unfold Txt.mul
  rw [if_neg (by omega), if_neg (by
    have : ((n : Int) == 1) = false := by rw [beq_eq_false_iff_ne]; omega
    rw [this]
    exact Bool.false_ne_true)]
  rw [Int.toNat_natCast]
  have key : ∀ (m : Nat) (a : Array Nat), (List.replicate m #[c]).foldl (· ++ ·) a = a ++ (List.replicate m c).toArray := by
    intro m
    induction m with
    | zero => intro a; simp
    | succ m ih =>
      intro a
      rw [List.replicate_succ, List.foldl_cons, ih, List.replicate_succ]
      apply Array.toList_inj.mp
      simp
  rw [key]
  simp
theorem mul_ok (c n : Nat) (h : n ≤ 100000) : MulOk ⟨#[c]⟩ (n : Int) := by
  have e : (2 : Int) ^ 63 = 9223372036854775808 := by decide +kernel
  refine ⟨?_, fun h1 _ => ?_, fun _ _ => ?_⟩
  · rw [e]
    simp
    omega
  · rw [e]
    show ¬ ((1 : Nat) : Int) > _
    have : (1 : Int) ≤ (9223372036854775808 - 1) / (n : Int) := Int.le_ediv_of_mul_le (by omega) (by omega)
    omega
  · rw [Int.toNat_natCast]
    show decide (1 * n > sizeLine) = false
    have : sizeLine = 16777216 := rfl
    rw [this]
    exact decide_eq_false (by omega)
def ones (n : Nat) (c : Nat) : Str := ⟨(List.replicate n c).toArray⟩
theorem fMulT_rep {d : D} {Q : D → Prop} (n : Nat) (h : n ≤ 1000) (q : Q (.list (List.replicate n d))) : fMulT (.list [d]) (.int (n : Int)) Q := fMul_rep n h q
theorem fMulT_s {c n : Nat} {z : Str} {Q : D → Prop} (hz : z = ⟨#[c]⟩) (h2 : 2 ≤ n) (h : n ≤ 100000) (q : Q (.str (ones n c))) : fMulT (.str z) (.int (n : Int)) Q := by
  subst hz
  refine ⟨mul_ok c n h, ?_⟩
  rw [mul_cds c n h2]
  exact q
theorem sh_texts (n : Nat) : (D.list (List.replicate n (.str "text"))).sh 64 := (sh_list (n := 0) fun d hd => by rw [(List.mem_replicate.mp hd).2]; exact sh_str' 0 (by decide +kernel)).mono (by decide)
def okS (z : Str) : Prop := ∀ c ∈ cds z, c < 0x110000
theorem okS_ok {z : Str} (h : okS z) : PyData.strOk z = true := by
  unfold PyData.strOk
  rw [Array.all_eq_true_iff_forall_mem]
  intro c hc
  exact decide_eq_true (h c (Array.mem_toList_iff.mpr hc))
theorem ok_okS {z : Str} (h : PyData.strOk z = true) : okS z := by
  unfold PyData.strOk at h
  rw [Array.all_eq_true_iff_forall_mem] at h
  intro c hc
  exact of_decide_eq_true (h c (Array.mem_toList_iff.mp hc))
theorem okS_app {a b : Str} (ha : okS a) (hb : okS b) : okS (a ++ b) := fun c hc => by
  rw [cds_app] at hc
  rcases List.mem_append.mp hc with h | h
  · exact ha c h
  · exact hb c h
theorem okS_join {s : Str} (hs : okS s) : ∀ {ws : List Str}, (∀ w ∈ ws, okS w) → okS (Txt.join s ws)
  | [], _ => by rw [join_eq]; intro c hc; cases hc
  | [w], h => by rw [join_eq]; exact h w List.mem_cons_self
  | w :: v :: r, h => fun c hc => by
    rw [cds_join1] at hc
    rcases List.mem_append.mp hc with hc | hc
    · rcases List.mem_append.mp hc with hc | hc
      · exact h w List.mem_cons_self c hc
      · exact hs c hc
    · exact okS_join hs (fun x hx => h x (List.mem_cons_of_mem _ hx)) c hc
theorem app_len (a b : Str) : (a ++ b).length = a.length + b.length := by rw [← cds_len, cds_app, List.length_append, cds_len, cds_len]
theorem raises_fmt (x : Xc) (d : D) : Raises x (fmtEx x d) := by
  unfold fmtEx
  split
  · trivial
  · exact has_marks
theorem sem__law_parsed (x : Xc) : ∀ ds Q E, sp__law_parsed x ds Q E → t__law_parsed x (endD Q E) (startD 4 ds) := by
  rintro _ Q E ⟨d, rfl, hp, q⟩
  replace q : Q (told x (outT x (parM d))) := q
  unfold t__law_parsed sTry
  walk_at "ds"
  refine ⟨d, rfl, hp, ?_⟩
  show outE _ _ (outT x (parM d))
  cases ho : parM d with
  | some d' => rw [ho] at q; exact q
  | none =>
    rw [ho] at q
    exact ⟨has_text, by simp, ⟨x.badText, rfl, has_text, q⟩⟩
theorem sem__law_written (x : Xc) : ∀ ds Q E, sp__law_written x ds Q E → t__law_written x (endD Q E) (startD 4 ds) := by
  rintro _ Q E ⟨d, rfl, hp, q⟩
  replace q : Q (told x (fmtEx x d)) := q
  unfold t__law_written sTry
  walk_at "ds"
  refine ⟨d, rfl, hp, ?_⟩
  have hr := raises_fmt x d
  show outE _ _ (fmtEx x d)
  cases he : fmtEx x d with
  | ok d' => rw [he] at q; exact q
  | error c' =>
    rw [he] at q hr
    exact ⟨hr, by simp, ⟨c', rfl, hr, q⟩⟩
theorem sem__law_words : ∀ ds Q E, sp__law_words ds Q E → t__law_words (endD Q E) (startD 2 ds) := by
  rintro _ Q E ⟨ds, rfl, ⟨hl, hm⟩, q⟩
  replace q : Q (.str (fmtM ds)) := q
  replace hl : ds.length ≤ 60 := hl
  replace hm : ∀ m ∈ ds, isM m := hm
  unfold t__law_words wMs
  walk_at "ds"
  refine ⟨le1000 (by omega), ?_⟩
  refine comp_map (fun d => .str (wordM d)) _ (fun m hmm => ⟨_, rfl, fun Q' q' => ?_⟩) ?_
  · walk_at "ds"
    rcases hm m hmm with ⟨s, hs, rfl⟩ | ⟨s, h, hs, hh, rfl⟩
    · refine ⟨false, rfl, ite_f rfl ?_⟩
      exact sgn_at s hs q'
    · refine ⟨true, rfl, ite_t rfl ?_⟩
      refine ⟨_, rfl, sgn_at s hs ?_⟩
      refine ⟨_, rfl, ?_⟩
      refine ⟨?_, ?_⟩
      · show (h : Int).natAbs.log2 < 1920
        have : ∀ h : Nat, h < 11 → (h : Int).natAbs.log2 < 1920 := by decide +kernel
        exact this h hh
      · show fAdd (.str (sgnS (s : Int))) (.str ((toString (h : Int) : String) : Str)) Q'
        rw [fAdd_s]
        refine ⟨?_, q'⟩
        have : ∀ s : Nat, s < 2 → ∀ h : Nat, h < 11 → (sgnS (s : Int)).length + ((toString (h : Int) : String) : Str).length ≤ 1000 := by decide +kernel
        exact le1000 (this s hs h hh)
  · exact join_marks (by omega) hm q
section
variable {x : Xc} {Q : D → Prop} {E : Addr → Prop}
theorem at_parsed {d : D} (h : fitS d) (q : Q (told x (outT x (parM d)))) : sp__law_parsed x [d] Q E := ⟨d, rfl, h, q⟩
theorem at_written {d : D} (h : d.plain = true) (q : Q (told x (fmtEx x d))) : sp__law_written x [d] Q E := ⟨d, rfl, h, q⟩
theorem at_words {ds : List D} (hl : ds.length ≤ 60) (hm : ∀ m ∈ ds, isM m) (q : Q (.str (fmtM ds))) : sp__law_words [.list ds] Q E := ⟨ds, rfl, ⟨hl, hm⟩, q⟩
theorem told_text (nd : x.all.Nodup) {d : D} (h : parM d = none) : told x (outT x (parM d)) = .str "text" := by
  rw [h]
  show D.str (errNm x x.badText) = _
  rw [nm_text nd]
theorem told_marks (nd : x.all.Nodup) {d : D} (h : areM d = false) : told x (fmtEx x d) = .str "marks" := by
  unfold fmtEx
  rw [if_neg (by rw [h]; simp)]
  show D.str (errNm x x.badMarks) = _
  rw [nm_marks nd]
end
/-! ### texts of nothing -/
def noM (d : D) : Bool := match d with
  | .str z => (match readM z with
    | some ds => !areM (.list ds)
    | none => true)
  | _ => true
theorem noM_none {d : D} (h : noM d = true) : parM d = none := by
  cases d with
  | str z =>
    rw [parM_s]
    have h : (match readM z with
      | some ds => !areM (.list ds)
      | none => true) = true := h
    cases hr : readM z with
    | none => rfl
    | some ds =>
      rw [hr] at h
      have h : (!areM (.list ds)) = true := h
      have h : areM (.list ds) = false := by simpa using h
      simp only [h]
      rfl
  | _ => rfl
def fitM (d : D) : Bool := d.plain && match d with
  | .str z => decide (z.length + 2 ≤ 16777216) && PyData.strOk z
  | _ => true
theorem fitM_fit {d : D} (h : fitM d = true) : fitS d := by
  unfold fitM at h
  rw [Bool.and_eq_true] at h
  refine ⟨⟨h.1, fun z e => ?_⟩, fun z e => ?_⟩
  · subst e
    have h2 : (decide (z.length + 2 ≤ 16777216) && PyData.strOk z) = true := h.2
    rw [Bool.and_eq_true] at h2
    exact of_decide_eq_true h2.1
  · subst e
    have h2 : (decide (z.length + 2 ≤ 16777216) && PyData.strOk z) = true := h.2
    rw [Bool.and_eq_true] at h2
    exact h2.2
def bigM : Str := "+" ++ ones 4000 49
theorem bigM_len : bigM.length = 4001 := by
  rw [← cds_len]
  unfold bigM
  rw [cds_app, List.length_append]
  show (cds "+").length + (List.replicate 4000 49).length = 4001
  rw [List.length_replicate]
  have : (cds "+").length = 1 := by decide
  rw [this]
theorem fmtM_len {ds : List D} (hl : ds.length ≤ 60) (hm : ∀ m ∈ ds, isM m) : (fmtM ds).length ≤ 240 := by
  unfold fmtM
  rw [join_eq]
  refine Nat.le_trans (StrLaws.join_length_le _ _) ?_
  have h1 := sum_le (l := (ds.map wordM).map (·.length)) (m := 3) fun x hx => by
    obtain ⟨w, hw, rfl⟩ := List.mem_map.mp hx
    obtain ⟨d, hd, rfl⟩ := List.mem_map.mp hw
    exact (okWd_iff (word_ok (hm d hd))).1
  rw [List.length_map, List.length_map] at h1
  rw [List.length_map]
  have e : (" " : Str).length = 1 := by decide
  rw [e]
  omega
theorem bigM_no : parM (.str bigM) = none := by
  cases h : parM (.str bigM) with
  | none => rfl
  | some d =>
    obtain ⟨ds, rfl, ha, e⟩ := fmt_parM h
    obtain ⟨ds', e2, hl, hm⟩ := areM_is ha
    cases e2
    have := fmtM_len hl hm
    rw [e, bigM_len] at this
    omega
theorem okS_ones (n c : Nat) (h : c < 0x110000) : okS (ones n c) := fun d hd => by
  have : d ∈ List.replicate n c := hd
  rw [(List.mem_replicate.mp this).2]
  exact h
theorem bigM_fit : fitS (.str bigM) := by
  have hl := bigM_len
  have ho : PyData.strOk bigM = true := okS_ok (okS_app (ok_okS (by decide +kernel)) (okS_ones 4000 49 (by decide)))
  generalize bigM = z at hl ho
  refine ⟨⟨rfl, fun y e => ?_⟩, fun y e => ?_⟩
  · injection e with e
    rw [← e, hl, sizeLine_eq]
    omega
  · injection e with e
    rw [← e]
    exact ho
def oddM1 : List D := [.none, .int 5, .str " ", .str "+ ", .str " +", .str "+  -", .str "0", .str "1", .str "++", .str "+-", .str "+11", .str "+-1", .str "+05", .str "5+", .str "+5 -", .str "+ -3", .str "x", .str "+5,-3", .str "+\n", .list [.str "+"], .str "+5 ", .str "+010", .str "+ 5", .str "plus", .str "--"]
def oddM2 : List D := [.str (Txt.join " " (List.replicate 61 "+")), .str (Txt.join " " (List.replicate 61 "-0"))]
theorem oddM_no : (oddM1 ++ oddM2).all noM = true := by decide +kernel
theorem oddM_fit : (oddM1 ++ oddM2).all fitM = true := by decide +kernel
theorem oddM_all : ∀ d ∈ oddM1 ++ (oddM2 ++ [.str bigM]), fitS d ∧ parM d = none := fun d hd => by
  rw [← List.append_assoc] at hd
  rcases List.mem_append.mp hd with h | h
  · exact ⟨fitM_fit (List.all_eq_true.mp oddM_fit d h), noM_none (List.all_eq_true.mp oddM_no d h)⟩
  · rw [List.mem_singleton.mp h]
    exact ⟨bigM_fit, bigM_no⟩
theorem join_rep {n : Nat} {z : Str} {Q : D → Prop} (hz : z.length ≤ 3) (hn : n ≤ 61) (q : Q (.str (Txt.join " " (List.replicate n z)))) : gJoin " " [.list (List.replicate n (.str z))] Q := by
  refine ⟨List.replicate n z, ?_, ?_, q⟩
  · have := strs_map (List.replicate n z)
    rw [List.map_replicate] at this
    exact this
  · have h1 := sum_le (l := (List.replicate n z).map (·.length)) (m := 3) fun x hx => by
      obtain ⟨w, hw, rfl⟩ := List.mem_map.mp hx
      rw [(List.mem_replicate.mp hw).2]
      exact hz
    rw [List.length_map, List.length_replicate] at h1
    rw [List.length_replicate]
    have h2 : (" " : Str).length = 1 := by decide
    rw [h2]
    omega
def badM : List D := [.none, .int 5, .str "+", .tuple [.int 0, .int 1], .list [.int 2], .list [.int (-1)], .list [.bool true], .list [.none], .list [.str "+"], .list [.tuple [.int 0]], .list [.tuple [.int 0, .int 0, .int 0]], .list [.tuple [.int 2, .int 0]], .list [.tuple [.int 0, .int 11]],
  .list [.tuple [.int 0, .bool true]], .list [.list [.int 0, .int 0]], .list [.int 0, .tuple [.int 0, .int 0]], .list [.tuple [.int 0, .int 0], .int 0], .list (List.replicate 61 (.int 0)), .list (List.replicate 61 (.tuple [.int 0, .int 0]))]
def badM2 : List D := [.list [.int 0, .int 1, .int 0, .int 1, .int 2], .list (List.replicate 4 (.tuple [.int 0, .int 0]) ++ [.tuple [.int 0, .int 11]])]
theorem badM_no : (badM ++ badM2).all (fun d => !areM d && d.plain) = true := by decide +kernel

theorem all_text {x : Xc} (nd : x.all.Nodup) {ds : List D} (h : ∀ d ∈ ds, fitS d ∧ parM d = none) {s0 s1 : Sl} {Q : List D → Prop} (hl : ds.length ≤ 1000) (q : Q (List.replicate ds.length (.str "text"))) :
    ds.length ≤ sizeLine ∧ compW (gN 2) bYes (wCall (sp__law_parsed x) (wCons (wVar 2) wNil)) [s0, s1, .un] ds Q := by
  refine ⟨le1000 hl, ?_⟩
  refine comp_map (fun _ => .str "text") ds (fun d hd => ⟨_, rfl, fun Q' q' => ?_⟩) ?_
  · obtain ⟨h1, h2⟩ := h d hd
    walk_at "ds"
    refine at_parsed h1 ?_
    rw [told_text nd h2]
    exact q'
  · rw [List.map_const']
    exact q
theorem all_marks {x : Xc} (nd : x.all.Nodup) {ds : List D} (h : ∀ d ∈ ds, d.plain = true ∧ areM d = false) {s0 s1 : Sl} {Q : List D → Prop} (hl : ds.length ≤ 1000) (q : Q (List.replicate ds.length (.str "marks"))) :
    ds.length ≤ sizeLine ∧ compW (gN 2) bYes (wCall (sp__law_written x) (wCons (wVar 2) wNil)) [s0, s1, .un] ds Q := by
  refine ⟨le1000 hl, ?_⟩
  refine comp_map (fun _ => .str "marks") ds (fun d hd => ⟨_, rfl, fun Q' q' => ?_⟩) ?_
  · obtain ⟨h1, h2⟩ := h d hd
    walk_at "ds"
    refine at_written h1 ?_
    rw [told_marks nd h2]
    exact q'
  · rw [List.map_const']
    exact q
theorem sh_reps (n : Nat) (s : Str) (h : PyData.strOk s = true) : (D.list (List.replicate n (.str s))).sh 64 := (sh_list (n := 0) fun d hd => by rw [(List.mem_replicate.mp hd).2]; exact sh_str' 0 h).mono (by decide)
theorem badM_all : ∀ d ∈ badM ++ badM2, d.plain = true ∧ areM d = false := fun d hd => by
  have := List.all_eq_true.mp badM_no d hd
  rw [Bool.and_eq_true] at this
  exact ⟨this.2, by simpa using this.1⟩
theorem rep_at {n : Nat} {d : D} (h : areM (.list (List.replicate n d)) = true) (w : Str) (hw : wordM d = w) : fmtM (List.replicate n d) = Txt.join " " (List.replicate n w) := by
  unfold fmtM
  rw [List.map_replicate, hw]
theorem areM_plain {d : D} (h : areM d = true) : d.plain = true := by
  obtain ⟨ds, rfl, _, hm⟩ := areM_is h
  exact marks_plain hm
theorem sem__law_rejected (x : Xc) (nd : x.all.Nodup) : ∀ ds Q E, sp__law_rejected x ds Q E → t__law_rejected x (endD Q E) (startD 3 ds) := by
  rintro _ Q E ⟨_, rfl, _, q⟩
  replace q : Q (.bool true) := q
  unfold t__law_rejected
  have e0 : startD 3 ([] : List D) = [.un, .un, .un] := rfl
  rw [e0]
  refine seq_g fun n1 h1 => ?_
  walk_at "ds"
  refine h1 [.val (.list oddM1), .un, .un] ?_
  clear h1
  refine seq_g fun n2 h2 => ?_
  unfold wMs
  walk_at "ds"
  refine fMulT_rep 61 (by decide) ?_
  refine join_rep (by decide) (by decide) ?_
  refine fMulT_rep 61 (by decide) ?_
  refine join_rep (by decide) (by decide) ?_
  refine fMulT_s (c := 49) (n := 4000) (by decide) (by decide) (by decide) ?_
  rw [fAdd_s]
  have hb : ("+" : Str).length + (ones 4000 49).length ≤ sizeLine := by
    have e : ("+" : Str).length = 1 := by decide
    have e2 : (ones 4000 49).length = 4000 := by
      rw [← cds_len]
      show (List.replicate 4000 49).length = 4000
      rw [List.length_replicate]
    rw [e, e2, sizeLine_eq]
    omega
  refine ⟨hb, ?_⟩
  refine ⟨le1000 (by decide), h2 [.val (.list (oddM1 ++ (oddM2 ++ [.str bigM]))), .un, .un] ?_⟩
  clear h2
  refine seq_g fun n3 h3 => ?_
  unfold wMs
  walk_at "ds"
  refine all_text nd oddM_all (by decide) ?_
  refine fMulT_rep 28 (by decide) ?_
  refine fNe_same rfl (sh_texts 28) (ite_f rfl ?_)
  refine at_parsed (fitM_fit (by decide +kernel)) ?_
  rw [show parM (.str "") = some (.list []) from by
    have h0 : readM "" = some [] := if_pos rfl
    rw [parM_s, h0]
    rfl]
  refine fNe_same rfl (sh_64 (sh_is [])) (ite_f rfl ?_)
  refine fMulT_rep 60 (by decide) ?_
  refine join_rep (by decide) (by decide) ?_
  refine at_parsed (fitM_fit (by decide +kernel)) ?_
  have a60 : areM (.list (List.replicate 60 (.tuple [.int 0, .int 10]))) = true := by decide +kernel
  rw [← rep_at a60 "-10" (by decide), par_fmtM a60]
  show gLen [.list (List.replicate 60 (.tuple [.int 0, .int 10]))] _
  rw [gLen_l, List.length_replicate, fNe_i]
  refine ite_f rfl (h3 _ ?_)
  clear h3
  refine seq_g fun n4 h4 => ?_
  walk_at "ds"
  refine fMulT_rep 61 (by decide) ?_
  refine fMulT_rep 61 (by decide) ?_
  refine h4 [.val (.list (oddM1 ++ (oddM2 ++ [.str bigM]))), .val (.list badM), .un] ?_
  clear h4
  refine seq_g fun n5 h5 => ?_
  walk_at "ds"
  refine fMulT_rep 4 (by decide) ?_
  refine ⟨le1000 (by decide), ?_⟩
  refine ⟨le1000 (by decide), ?_⟩
  refine all_marks nd badM_all (by decide) ?_
  refine fMulT_rep 21 (by decide) ?_
  refine fNe_same rfl (sh_reps 21 _ (by decide +kernel)) (ite_f rfl (h5 _ ?_))
  clear h5
  unfold wMs
  walk_at "ds"
  refine at_written rfl ?_
  rw [show fmtEx x (.list []) = .ok (.str "") from rfl]
  refine fEq_same rfl (sh_str (by decide +kernel)) (ite_t rfl ?_)
  refine fMulT_rep 60 (by decide) ?_
  have b60 : areM (.list (List.replicate 60 (.int 1))) = true := by decide +kernel
  refine at_written (areM_plain b60) ?_
  refine fMulT_rep 60 (by decide) ?_
  refine join_rep (by decide) (by decide) ?_
  rw [show fmtEx x (.list (List.replicate 60 (.int 1))) = .ok (.str (fmtM (List.replicate 60 (.int 1)))) from if_pos b60]
  refine fEq_same (congrArg D.str (rep_at b60 "+" (by decide))) (sh_str (by decide +kernel)) (ite_t rfl ?_)
  refine at_parsed (fitM_fit (by decide +kernel)) ?_
  have c2 : areM (.list [.tuple [.int 1, .int 5], .tuple [.int 0, .int 3]]) = true := by decide +kernel
  have ec : fmtM [.tuple [.int 1, .int 5], .tuple [.int 0, .int 3]] = "+5 -3" := by decide +kernel
  rw [← ec, par_fmtM c2]
  exact fEq_same rfl ((sh_list (n := 1) fun d hd => by
    simp only [List.mem_cons, List.mem_nil_iff, or_false, List.not_mem_nil] at hd
    rcases hd with rfl | rfl
    · exact ⟨rfl, rfl, by decide⟩
    · exact ⟨rfl, rfl, by decide⟩).mono (by decide)) q
end HC
/-! S16: the law k16. -/
namespace HC
open PySem PySem.Spec PyProof.Rows L2
local macro_rules | `(tactic| walk_at "ds") => `(tactic| try simp only [endD, startD, startT, endLaw, startLaw, List.map_cons, List.map_nil, List.length_cons, List.length_nil, List.replicate, List.cons_append, List.nil_append, Nat.reduceSub, Nat.reduceAdd, sSeq, sRet, sIf, sNil, sAsg, sUnp, sExpr, sPar2, sPar3, xCons, xNil, xVal, xOwn, bTest, bNot, bAnd, bOr, wVar, wPeek, slot, wC, wOp2, wB, wM, wCons, wNil, wTup, wLst, wIf, wAnd, wOr, wNot, wNeg, wCall, wCallT, wSl, wPart, wNoPart, List.set, ex1, gT_t, gT_st, gT_pr, gC_c, gN_c, gNil_c, sRaise, wChain, sFrz, frz, wIsi, wTabIn, wTabAt, sAug, wipeD, En.lp, loopW_nil, d_WEATHERS, ds_WEATHERS, wDisp1, wNewT, wComp, iSeq, iRange, gList_l, sFor, Bool.false_eq_true, if_false, if_true,
  fAdd_i, fAdd_s, fAdd_l, fAdd_t, fAddL_l, fSub_i, fLt_i, fLe_i, fGt_i, fGe_i, fEq_i, fNe_i, fIs_b, fIsN_b, fIs_nn, fIs_in, fIs_ln, fIs_tn, fIsN_nn, fIsN_in, fIsN_ln, fIsN_tn, gMin_2, gMax_2, gLen_l, gLen_t, fIx_rm0, fIx_rm1, fIx_rm2, fIx_st0, fIx_st1, fIx_st2, fIx_rg0, fIx_rg1, fIx_rg2, fSl_rg, fEq_gap, fEq_stay, fEq_late, fEq_look, fEq_lean])
def goodW (w : Str) : Prop := okS w ∧ w.length ≤ 3
/-- a list of words -/
def Wds (n : Nat) (d : D) : Prop := ∃ ws : List Str, d = .list (ws.map D.str) ∧ ws.length ≤ n ∧ ∀ w ∈ ws, goodW w
theorem wds_cut {n : Nat} {d : D} {lo hi : Option Int} {Q : D → Prop} (h : Wds n d) (q : ∀ d', Wds n d' → Q d') : fSlT d lo hi Q := by
  obtain ⟨ws, rfl, hl, hg⟩ := h
  show Q (.list (cutL (ws.map D.str) lo hi))
  have e : cutL (ws.map D.str) lo hi = (cutL ws lo hi).map D.str := by
    unfold cutL
    rw [List.length_map, ← List.map_drop, ← List.map_take]
  rw [e]
  refine q _ ⟨_, rfl, ?_, fun w hw => hg w ?_⟩
  · unfold cutL
    rw [List.length_take, List.length_drop]
    omega
  · exact List.mem_of_mem_drop (List.mem_of_mem_take hw)
theorem wds_add {n m : Nat} {d e : D} {Q : D → Prop} (h1 : Wds n d) (h2 : Wds m e) (hl : n + m ≤ 1000) (q : ∀ d', Wds (n + m) d' → Q d') : fAdd d e Q := by
  obtain ⟨ws, rfl, l1, g1⟩ := h1
  obtain ⟨vs, rfl, l2, g2⟩ := h2
  rw [fAdd_l]
  refine ⟨le1000 (by rw [List.length_map, List.length_map]; omega), ?_⟩
  rw [← List.map_append]
  refine q _ ⟨_, rfl, by rw [List.length_append]; omega, fun w hw => ?_⟩
  rcases List.mem_append.mp hw with h | h
  · exact g1 w h
  · exact g2 w h
def pool16 : List Str := ["+", "-", "+0", "-10", "+11", "5", "", "+-", "-7", "++"]
theorem pool_ok : ∀ w ∈ pool16, PyData.strOk w = true ∧ w.length ≤ 3 := by decide +kernel
theorem sh_M {ds : List D} (h : ∀ m ∈ ds, isM m) : (D.list ds).sh 64 := (sh_list (n := 1) fun d hd => by
  rcases h d hd with ⟨s, _, rfl⟩ | ⟨s, t, _, _, rfl⟩
  · exact sh_int' 1 _
  · exact ⟨rfl, rfl, Nat.le_refl _⟩).mono (by decide)
theorem words_len {ws : List Str} (hl : ws.length ≤ 100) (hg : ∀ w ∈ ws, goodW w) : (Txt.join " " ws).length ≤ 400 ∧ (ws.map (·.length)).sum + ws.length * (" " : Str).length ≤ 16777216 := by
  have h1 := sum_le (l := ws.map (·.length)) (m := 3) fun x hx => by
    obtain ⟨w, hw, rfl⟩ := List.mem_map.mp hx
    exact (hg w hw).2
  rw [List.length_map] at h1
  have e : (" " : Str).length = 1 := by decide
  rw [e]
  refine ⟨?_, by omega⟩
  rw [join_eq]
  refine Nat.le_trans (StrLaws.join_length_le _ _) ?_
  rw [e]
  omega
theorem fit_join {ws : List Str} (hl : ws.length ≤ 100) (hg : ∀ w ∈ ws, goodW w) : fitS (.str (Txt.join " " ws)) ∧ PyData.strOk (Txt.join " " ws) = true := by
  have h1 := (words_len hl hg).1
  have h2 : PyData.strOk (Txt.join " " ws) = true := okS_ok (okS_join (ok_okS (by decide +kernel)) fun w hw => (hg w hw).1)
  refine ⟨⟨⟨rfl, fun z e => ?_⟩, fun z e => ?_⟩, h2⟩
  · injection e with e
    rw [← e, sizeLine_eq]
    omega
  · injection e with e
    rw [← e]
    exact h2
def k16B (x : Xc) : TSD := (sSeq (sPar2 9 10 (xCons (xVal (wCallT 1 sp__law_draw (wCons (wOp2 fAdd (wB gLen (wCons (wPeek 6) wNil)) (wC (.int 1))) wNil))) (xCons (xVal (wCallT 1 sp__law_pick (wCons (wVar 7) wNil))) xNil)))
    (sSeq (sAsg 11 (xVal (wLst (wCons (wOp2 fAdd (wOp2 fAdd (wSlT (wPeek 6) wNoPart (wPart (wPeek 9))) (wLst (wCons (wVar 10) wNil))) (wSlT (wPeek 6) (wPart (wOp2 fAdd (wPeek 9) (wC (.int 1)))) wNoPart)) (wCons (wOp2 fAdd (wOp2 fAdd (wSlT (wPeek 6) wNoPart (wPart (wPeek 9))) (wLst (wCons (wVar 10) wNil))) (wSlT (wPeek 6) (wPart (wPeek 9)) wNoPart)) (wCons (wOp2 fAdd (wSlT (wPeek 6) wNoPart (wPart (wPeek 9))) (wSlT (wPeek 6) (wPart (wOp2 fAdd (wPeek 9) (wC (.int 1)))) wNoPart)) wNil))))))
    (sSeq (sAsg 12 (xVal (wMs gJoin (wC (.str " ")) (wCons (wCallT 1 sp__law_pick (wCons (wVar 11) wNil)) wNil))))
    (sSeq (sAsg 13 (xVal (wCall (sp__law_parsed x) (wCons (wVar 12) wNil))))
    (sIf (bAnd (bTest (wOp2 fNe (wPeek 13) (wC (.str "text")))) (bOr (bTest (wOp2 fNe (wCall sp__law_words (wCons (wVar 13) wNil)) (wPeek 12))) (bTest (wOp2 fNe (wCall (sp__law_written x) (wCons (wVar 13) wNil)) (wPeek 12))))) (sRet (wC (.bool false))) sNil)))))
theorem k16_turn {x : Xc} (nd : x.all.Nodup) {s2 s3 s4 s5 s8 s9 s10 s11 s12 s13 : Sl} {ws : List Str} {e : En} (hl : ws.length ≤ 20) (hg : ∀ w ∈ ws, goodW w)
    (q : ∀ s9 s10 s11 s12 s13, e.nx [.un, .tok, s2, s3, s4, s5, .val (.list (ws.map D.str)), .val (.list (pool16.map D.str)), s8, s9, s10, s11, s12, s13]) :
    k16B x e [.un, .tok, s2, s3, s4, s5, .val (.list (ws.map D.str)), .val (.list (pool16.map D.str)), s8, s9, s10, s11, s12, s13] := by
  have hW : Wds 20 (.list (ws.map D.str)) := ⟨ws, rfl, hl, hg⟩
  unfold k16B
  refine seq_g fun n1 h1 => ?_
  walk_at "ds"
  refine in_draw (by rw [List.length_map]; omega) (by rw [List.length_map]; omega) fun a a0 a1 => ?_
  refine in_pick (by decide) (by decide) fun d hd => ?_
  obtain ⟨m, hm, rfl⟩ := List.mem_map.mp hd
  obtain ⟨m1, m2⟩ := pool_ok m hm
  refine h1 _ ?_
  clear h1
  have hM : Wds 1 (.list [.str m]) := ⟨[m], rfl, Nat.le_refl _, fun w hw => by rw [List.mem_singleton.mp hw]; exact ⟨ok_okS m1, m2⟩⟩
  generalize (D.list (ws.map D.str)) = dw at hW q
  refine seq_g fun n2 h2 => ?_
  unfold wSlT
  walk_at "ds"
  refine wds_cut hW fun d1 w1 => ?_
  refine wds_add w1 hM (by decide) fun d2 w2 => ?_
  refine wds_cut hW fun d3 w3 => ?_
  refine wds_add w2 w3 (by decide) fun d4 w4 => ?_
  refine wds_cut hW fun e1 v1 => ?_
  refine wds_add v1 hM (by decide) fun e2 v2 => ?_
  refine wds_cut hW fun e3 v3 => ?_
  refine wds_add v2 v3 (by decide) fun e4 v4 => ?_
  refine wds_cut hW fun f1 u1 => ?_
  refine wds_cut hW fun f3 u3 => ?_
  refine wds_add u1 u3 (by decide) fun f4 u4 => ?_
  refine h2 _ ?_
  clear h2
  refine seq_g fun n3 h3 => ?_
  unfold wMs
  walk_at "ds"
  refine in_pick (by show 0 < 3; decide) (by show 3 ≤ 1000; decide) fun d hd => ?_
  have hd : Wds 41 d := by
    simp only [List.mem_cons, List.mem_nil_iff, or_false, List.not_mem_nil] at hd
    rcases hd with rfl | rfl | rfl
    · obtain ⟨v, e, l, g⟩ := w4; exact ⟨v, e, by omega, g⟩
    · obtain ⟨v, e, l, g⟩ := v4; exact ⟨v, e, by omega, g⟩
    · obtain ⟨v, e, l, g⟩ := u4; exact ⟨v, e, by omega, g⟩
  obtain ⟨vs, rfl, vl, vg⟩ := hd
  refine ⟨vs, strs_map vs, (words_len (by omega) vg).2, h3 _ ?_⟩
  clear h3
  obtain ⟨hf, ho⟩ := fit_join (by omega) vg
  generalize Txt.join " " vs = z at hf ho
  refine seq_g fun n4 h4 => ?_
  walk_at "ds"
  refine at_parsed hf (h4 _ ?_)
  clear h4
  walk_at "ds"
  cases hp : parM (.str z) with
  | none =>
    have := told_text (x := x) nd hp
    rw [hp] at this
    rw [this]
    exact fNe_same rfl (sh_str (by decide +kernel)) (ite_f rfl (q _ _ _ _ _))
  | some d =>
    obtain ⟨ds, rfl, ha, ef⟩ := fmt_parM hp
    obtain ⟨ds', e2, l2, m2⟩ := areM_is ha
    cases e2
    show fNe (.list ds) (.str "text") _
    refine fNe_any (sh_M m2) (sh_str (by decide +kernel)) ?_
    refine ite_t rfl ?_
    show sp__law_words [.list ds] _ _
    refine at_words l2 m2 ?_
    refine fNe_same (congrArg D.str ef) (sh_str ho) (ite_f rfl ?_)
    show sp__law_written x [.list ds] _ _
    refine at_written (marks_plain m2) ?_
    have e3 : told x (fmtEx x (.list ds)) = .str (fmtM ds) := by
      unfold fmtEx
      rw [if_pos ha]
      rfl
    rw [e3]
    exact fNe_same (congrArg D.str ef) (sh_str ho) (ite_f rfl (q _ _ _ _ _))
theorem marks_are {r : Rm} {g : Rg} {ws : List Int} {sg : Int} (ok : r.Ok) (gk : g.Ok r.top) (hl : ws.length ≤ 60) (s0 : 0 ≤ sg) (s1 : sg ≤ 1) : areM (.list ((along r g ws).tail.map (encMark sg))) = true := by
  have t10 := ok.t10
  have len : ((along r g ws).tail.map (encMark sg)).length ≤ 60 := by
    unfold along
    rw [List.length_map, List.length_tail, along_length]
    omega
  have key : isMrowF (.list ((along r g ws).tail.map (encMark sg))) 10 sg = true := by
    show (decide (_ ≤ 60) && List.all _ _) = true
    rw [decide_eq_true len, Bool.true_and, List.all_eq_true]
    intro d hd
    obtain ⟨t, ht, rfl⟩ := List.mem_map.mp hd
    have h := along_ok ok gk ws t (List.mem_of_mem_tail ht)
    have a := h.h0
    have b := h.ht
    have c := h.sw
    unfold isMarkF encMark
    by_cases z : sg = 0
    · rw [if_pos z, if_pos z]
      show (decide (0 ≤ t.2.1) && decide (t.2.1 ≤ 1)) = true
      rw [decide_eq_true (by omega), decide_eq_true (by omega)]
      rfl
    · rw [if_neg z, if_neg z]
      show ((decide (0 ≤ t.2.1) && decide (t.2.1 ≤ 1)) && (decide (0 ≤ t.1) && decide (t.1 ≤ 10))) = true
      rw [decide_eq_true (show 0 ≤ t.2.1 by omega), decide_eq_true (show t.2.1 ≤ 1 by omega), decide_eq_true (show 0 ≤ t.1 by omega), decide_eq_true (show t.1 ≤ 10 by omega)]
      rfl
  unfold areM
  have : sg = 0 ∨ sg = 1 := by omega
  rcases this with rfl | rfl
  · rw [key]; rfl
  · rw [key, Bool.or_true]
theorem sem_law (x : Xc) (nd : x.all.Nodup) : t_law x endLaw (startLaw 14) := by
  unfold t_law
  have e0 : startLaw 14 = [.un, .tok, .un, .un, .un, .un, .un, .un, .un, .un, .un, .un, .un, .un] := rfl
  rw [e0]
  refine seq_g fun n1 h1 => ?_
  walk_at "ds"
  refine in_room fun r ok => ?_
  refine in_draw (by omega) (by omega) fun sg s0 s1 => h1 _ ?_
  clear h1
  refine seq_g fun n2 h2 => ?_
  walk_at "ds"
  refine in_regulator ok fun g gk => ?_
  refine in_row (by omega) (by omega) fun row hw hl => ?_
  replace hl : row.length ≤ 20 := by omega
  refine at_marks_of ⟨ok, gk, by omega, hw⟩ s0 (by omega) (h2 _ ?_)
  clear h2
  have ha := marks_are (ws := row) ok gk (by omega) s0 (by omega : sg ≤ 1)
  have len : ((along r g row).tail.map (encMark sg)).length ≤ 20 := by
    unfold along
    rw [List.length_map, List.length_tail, along_length]
    omega
  obtain ⟨ds, e, _, hm⟩ := areM_is ha
  injection e with e
  rw [e] at ha len ⊢
  clear e
  have hg : ∀ w ∈ ds.map wordM, goodW w := fun w hw => by
    obtain ⟨d, hd, rfl⟩ := List.mem_map.mp hw
    have := okWd_iff (word_ok (hm d hd))
    exact ⟨fun c hc => Nat.lt_trans (this.2.2.2 c hc) (by decide), this.1⟩
  have fit := fit_join (ws := ds.map wordM) (by rw [List.length_map]; omega) hg
  replace fit : fitS (.str (fmtM ds)) ∧ PyData.strOk (fmtM ds) = true := fit
  refine seq_g fun n3 h3 => ?_
  walk_at "ds"
  refine ⟨.list ds, rfl, marks_plain hm, ?_⟩
  have e3 : fmtEx x (.list ds) = .ok (.str (fmtM ds)) := if_pos ha
  show outE _ _ (fmtEx x (.list ds))
  rw [e3]
  refine h3 [.un, .tok, .val r.enc, .val (.int sg), .val (.list ds), .val (.str (fmtM ds)), .un, .un, .un, .un, .un, .un, .un, .un] ?_
  clear h3
  refine seq_g fun n4 h4 => ?_
  walk_at "ds"
  refine at_words (by omega) hm ?_
  refine fNe_same rfl (sh_str fit.2) (ite_f rfl ?_)
  refine at_parsed fit.1 ?_
  rw [par_fmtM ha]
  show fNe (.list ds) (.list ds) _
  refine fNe_same rfl (sh_M hm) (ite_f rfl (h4 _ ?_))
  clear h4
  refine seq_g fun n5 h5 => ?_
  have go : n5 [.un, .tok, .val r.enc, .val (.int sg), .val (.list ds), .val (.str (fmtM ds)), .val (.list ((ds.map wordM).map D.str)), .un, .un, .un, .un, .un, .un, .un] := by
    refine h5 _ ?_
    clear h5
    refine seq_g fun n6 h6 => ?_
    walk_at "ds"
    refine h6 [.un, .tok, .val r.enc, .val (.int sg), .val (.list ds), .val (.str (fmtM ds)), .val (.list ((ds.map wordM).map D.str)), .val (.list (pool16.map D.str)), .un, .un, .un, .un, .un, .un] ?_
    clear h6
    refine seq_g fun n7 h7 => ?_
    refine for_rng (n := 16) (fun _ env => ∃ s8 s9 s10 s11 s12 s13, env = [.un, .tok, .val r.enc, .val (.int sg), .val (.list ds), .val (.str (fmtM ds)), .val (.list ((ds.map wordM).map D.str)), .val (.list (pool16.map D.str)), s8, s9, s10, s11, s12, s13]) (by decide) ⟨_, _, _, _, _, _, rfl⟩ ?_ ?_
    · rintro _ ⟨s8, s9, s10, s11, s12, s13, rfl⟩
      refine h7 _ ?_
      walk_at "ds"
      exact ⟨(), rfl, trivial, rfl⟩
    · rintro k _ nx hk ⟨s8, s9, s10, s11, s12, s13, rfl⟩ go
      refine ⟨_, rfl, ?_⟩
      exact k16_turn (e := En.lp _ nx) nd (by rw [List.length_map]; omega) hg fun s9 s10 s11 s12 s13 => go _ ⟨_, s9, s10, s11, s12, s13, rfl⟩
  clear h5
  unfold wMs
  walk_at "ds"
  refine fNe_any (sh_str fit.2) (sh_str (by decide +kernel)) ?_
  rw [deq_str]
  by_cases c : ds = []
  · subst c
    rw [fmtM_nil, decide_eq_true rfl]
    refine ite_f rfl ?_
    rw [fmtM_nil] at go
    exact go
  · rw [decide_eq_false (join_ne c hm)]
    refine ite_t rfl ?_
    refine ⟨rfl, fit.1.1.2 _ rfl, ?_⟩
    have es : Txt.split (fmtM ds) " " = ds.map wordM := by
      unfold fmtM
      rw [sp_is]
      refine split_join (by simpa using c) fun w hw => ?_
      obtain ⟨m, hm', rfl⟩ := List.mem_map.mp hw
      exact (okWd_iff (word_ok (hm m hm'))).2.2.1
    rw [es]
    exact go
end HC
namespace HL
open PySem PySem.Spec PyProof.Rows L2 HC
/-! ### the text -/
def topS (i : Nat) : Stmt := PySem.Challenge.pw_heatclicks_k16_whole_mark_texts.main.body.getD i (.Pass ⟨0, 0, 0, 0⟩)
abbrev s__law_start : Stmt := topS 47
theorem sc__law_start : FnScope ["script"] ["script"] (defScope s__law_start) := ⟨rfl, rfl, rfl, by decide +kernel, rfl, by decide +kernel, by decide +kernel⟩
abbrev s_is_int : Stmt := topS 9
theorem sc_is_int : FnScope ["value", "low", "high"] ["value", "low", "high"] (defScope s_is_int) := ⟨rfl, rfl, rfl, by decide +kernel, rfl, by decide +kernel, by decide +kernel⟩
abbrev s_is_room : Stmt := topS 14
theorem sc_is_room : FnScope ["value"] ["value"] (defScope s_is_room) := ⟨rfl, rfl, rfl, by decide +kernel, rfl, by decide +kernel, by decide +kernel⟩
abbrev s_check_room : Stmt := topS 15
theorem sc_check_room : FnScope ["value"] ["value"] (defScope s_check_room) := ⟨rfl, rfl, rfl, by decide +kernel, rfl, by decide +kernel, by decide +kernel⟩
abbrev s_is_for : Stmt := topS 22
theorem sc_is_for : FnScope ["value", "top"] ["value", "top"] (defScope s_is_for) := ⟨rfl, rfl, rfl, by decide +kernel, rfl, by decide +kernel, by decide +kernel⟩
abbrev s_check_regulator : Stmt := topS 23
theorem sc_check_regulator : FnScope ["room", "value"] ["room", "value"] (defScope s_check_regulator) := ⟨rfl, rfl, rfl, by decide +kernel, rfl, by decide +kernel, by decide +kernel⟩
abbrev s_is_weather : Stmt := topS 16
theorem sc_is_weather : FnScope ["value"] ["value"] (defScope s_is_weather) := ⟨rfl, rfl, rfl, by decide +kernel, rfl, by decide +kernel, by decide +kernel⟩
abbrev s_is_row : Stmt := topS 17
theorem sc_is_row : FnScope ["value", "one"] ["value"] (defScope s_is_row) := ⟨rfl, rfl, rfl, by decide +kernel, rfl, by decide +kernel, by decide +kernel⟩
abbrev s_check_row : Stmt := topS 18
theorem sc_check_row : FnScope ["value"] ["value"] (defScope s_check_row) := ⟨rfl, rfl, rfl, by decide +kernel, rfl, by decide +kernel, by decide +kernel⟩
abbrev s_check_number : Stmt := topS 10
theorem sc_check_number : FnScope ["value", "low", "high"] ["value", "low", "high"] (defScope s_check_number) := ⟨rfl, rfl, rfl, by decide +kernel, rfl, by decide +kernel, by decide +kernel⟩
abbrev s_check_sight : Stmt := topS 11
theorem sc_check_sight : FnScope ["value"] ["value"] (defScope s_check_sight) := ⟨rfl, rfl, rfl, by decide +kernel, rfl, by decide +kernel, by decide +kernel⟩
abbrev s_mark_of : Stmt := topS 30
theorem sc_mark_of : FnScope ["state", "sight"] ["state", "sight"] (defScope s_mark_of) := ⟨rfl, rfl, rfl, by decide +kernel, rfl, by decide +kernel, by decide +kernel⟩
abbrev s_first_state : Stmt := topS 25
theorem sc_first_state : FnScope ["room"] ["room"] (defScope s_first_state) := ⟨rfl, rfl, rfl, by decide +kernel, rfl, by decide +kernel, by decide +kernel⟩
abbrev s_warmed : Stmt := topS 26
theorem sc_warmed : FnScope ["room", "heat", "switch", "weather"] ["room", "heat", "switch", "weather"] (defScope s_warmed) := ⟨rfl, rfl, rfl, by decide +kernel, rfl, by decide +kernel, by decide +kernel⟩
abbrev s_decided : Stmt := topS 27
theorem sc_decided : FnScope ["heat", "low", "high", "switch"] ["heat", "low", "high", "switch"] (defScope s_decided) := ⟨rfl, rfl, rfl, by decide +kernel, rfl, by decide +kernel, by decide +kernel⟩
abbrev s_set_switch : Stmt := topS 28
theorem sc_set_switch : FnScope ["regulator", "before", "heat", "switch", "memory", "kind", "low", "high", "after"] ["regulator", "before", "heat", "switch", "memory"] (defScope s_set_switch) := ⟨rfl, rfl, rfl, by decide +kernel, rfl, by decide +kernel, by decide +kernel⟩
abbrev s_step : Stmt := topS 29
theorem sc_step : FnScope ["room", "regulator", "state", "weather", "before", "switch", "memory", "heat"] ["room", "regulator", "state", "weather"] (defScope s_step) := ⟨rfl, rfl, rfl, by decide +kernel, rfl, by decide +kernel, by decide +kernel⟩
abbrev s_states_of : Stmt := topS 32
theorem sc_states_of : FnScope ["room", "regulator", "row", "found", "weather"] ["room", "regulator", "row"] (defScope s_states_of) := ⟨rfl, rfl, rfl, by decide +kernel, rfl, by decide +kernel, by decide +kernel⟩
abbrev s_marks_of : Stmt := topS 33
theorem sc_marks_of : FnScope ["room", "regulator", "row", "sight", "state"] ["room", "regulator", "row", "sight"] (defScope s_marks_of) := ⟨rfl, rfl, rfl, by decide +kernel, rfl, by decide +kernel, by decide +kernel⟩
abbrev s_is_mark : Stmt := topS 36
theorem sc_is_mark : FnScope ["value", "top", "sight"] ["value", "top", "sight"] (defScope s_is_mark) := ⟨rfl, rfl, rfl, by decide +kernel, rfl, by decide +kernel, by decide +kernel⟩
abbrev s_is_mark_row : Stmt := topS 37
theorem sc_is_mark_row : FnScope ["value", "top", "sight", "one"] ["value", "top", "sight"] (defScope s_is_mark_row) := ⟨rfl, rfl, rfl, by decide +kernel, rfl, by decide +kernel, by decide +kernel⟩
abbrev s_are_marks : Stmt := topS 41
theorem sc_are_marks : FnScope ["value"] ["value"] (defScope s_are_marks) := ⟨rfl, rfl, rfl, by decide +kernel, rfl, by decide +kernel, by decide +kernel⟩
abbrev s_mark_text : Stmt := topS 40
theorem sc_mark_text : FnScope ["mark"] ["mark"] (defScope s_mark_text) := ⟨rfl, rfl, rfl, by decide +kernel, rfl, by decide +kernel, by decide +kernel⟩
abbrev s_format_marks : Stmt := topS 42
theorem sc_format_marks : FnScope ["marks", "one"] ["marks"] (defScope s_format_marks) := ⟨rfl, rfl, rfl, by decide +kernel, rfl, by decide +kernel, by decide +kernel⟩
abbrev s_check_text : Stmt := topS 43
theorem sc_check_text : FnScope ["text"] ["text"] (defScope s_check_text) := ⟨rfl, rfl, rfl, by decide +kernel, rfl, by decide +kernel, by decide +kernel⟩
abbrev s_mark_in : Stmt := topS 44
theorem sc_mark_in : FnScope ["word", "switch"] ["word"] (defScope s_mark_in) := ⟨rfl, rfl, rfl, by decide +kernel, rfl, by decide +kernel, by decide +kernel⟩
abbrev s_parse_marks : Stmt := topS 45
theorem sc_parse_marks : FnScope ["text", "found", "word"] ["text"] (defScope s_parse_marks) := ⟨rfl, rfl, rfl, by decide +kernel, rfl, by decide +kernel, by decide +kernel⟩
abbrev s__law_error : Stmt := topS 50
theorem sc__law_error : FnScope ["caught", "kinds"] ["caught"] (defScope s__law_error) := ⟨rfl, rfl, rfl, by decide +kernel, rfl, by decide +kernel, by decide +kernel⟩
abbrev s__law_parsed : Stmt := topS 54
theorem sc__law_parsed : FnScope ["text", "found", "caught", "e"] ["text"] (defScope s__law_parsed) := ⟨rfl, rfl, rfl, by decide +kernel, rfl, by decide +kernel, by decide +kernel⟩
abbrev s__law_written : Stmt := topS 55
theorem sc__law_written : FnScope ["marks", "found", "caught", "e"] ["marks"] (defScope s__law_written) := ⟨rfl, rfl, rfl, by decide +kernel, rfl, by decide +kernel, by decide +kernel⟩
abbrev s__law_rejected : Stmt := topS 57
theorem sc__law_rejected : FnScope ["odd", "bad_ones", "bad"] [] (defScope s__law_rejected) := ⟨rfl, rfl, rfl, by decide +kernel, rfl, by decide +kernel, by decide +kernel⟩
abbrev s__law_draw : Stmt := topS 48
theorem sc__law_draw : FnScope ["draws", "limit", "numbers", "at", "cell", "mixed"] ["draws", "limit"] (defScope s__law_draw) := ⟨rfl, rfl, rfl, by decide +kernel, rfl, by decide +kernel, by decide +kernel⟩
abbrev s__law_room : Stmt := topS 51
theorem sc__law_room : FnScope ["draws", "top"] ["draws"] (defScope s__law_room) := ⟨rfl, rfl, rfl, by decide +kernel, rfl, by decide +kernel, by decide +kernel⟩
abbrev s__law_pick : Stmt := topS 49
theorem sc__law_pick : FnScope ["draws", "choices"] ["draws", "choices"] (defScope s__law_pick) := ⟨rfl, rfl, rfl, by decide +kernel, rfl, by decide +kernel, by decide +kernel⟩
abbrev s__law_regulator : Stmt := topS 52
theorem sc__law_regulator : FnScope ["draws", "room", "low", "wide", "kind", "found"] ["draws", "room"] (defScope s__law_regulator) := ⟨rfl, rfl, rfl, by decide +kernel, rfl, by decide +kernel, by decide +kernel⟩
abbrev s__law_row : Stmt := topS 53
theorem sc__law_row : FnScope ["draws", "longest", "found", "most"] ["draws", "longest"] (defScope s__law_row) := ⟨rfl, rfl, rfl, by decide +kernel, rfl, by decide +kernel, by decide +kernel⟩
abbrev s__law_words : Stmt := topS 56
theorem sc__law_words : FnScope ["marks", "one"] ["marks"] (defScope s__law_words) := ⟨rfl, rfl, rfl, by decide +kernel, rfl, by decide +kernel, by decide +kernel⟩
abbrev s_law : Stmt := topS 58
theorem sc_law : FnScope ["script", "draws", "room", "sight", "marks", "text", "words", "pool", "turn", "at", "mark", "tails", "other", "found"] ["script"] (defScope s_law) := ⟨rfl, rfl, rfl, by decide +kernel, rfl, by decide +kernel, by decide +kernel⟩
/-! ### facts of the top -/
structure Mf (K : PySem.W.Frag) (w : World) (mg : Str → Option Value) (x : Xc) (ds : Str → Addr) : Prop where
  m_list : mg "list" = none
  m_isinstance : mg "isinstance" = none
  m_int : mg "int" = none
  m_bool : mg "bool" = none
  m_tuple : mg "tuple" = none
  m_len : mg "len" = none
  m_str : mg "str" = none
  m_all : mg "all" = none
  m_min : mg "min" = none
  m_max : mg "max" = none
  m_ValueError : mg "ValueError" = none
  m_range : mg "range" = none
  x_BadRoom : XCls K mg "BadRoom" x.badRoom
  x_BadRegulator : XCls K mg "BadRegulator" x.badRegulator
  x_BadWeather : XCls K mg "BadWeather" x.badWeather
  x_BadNumber : XCls K mg "BadNumber" x.badNumber
  x_BadMarks : XCls K mg "BadMarks" x.badMarks
  x_BadText : XCls K mg "BadText" x.badText
  x_NotFound : XCls K mg "NotFound" x.notFound
  x_HeatError : XCls K mg "HeatError" x.heatError
  xa : XAll K x
  k_SIZES : mg "SIZES" = some (.ref (ds "SIZES")) ∧ KTab K w (ds "SIZES") l_SIZES
  c_MOST_ROW : ∃ u, mg "MOST_ROW" = some u ∧ RelV (.int 60) u
  c_MOST_MARKS : ∃ u, mg "MOST_MARKS" = some u ∧ RelV (.int 60) u
  c_WIDEST : ∃ u, mg "WIDEST" = some u ∧ RelV (.int 10) u
  c_HEATS : KFlatN K mg "HEATS" (ns_HEATS.map D.str)
section
variable {P : Program} {w : World} {K : PySem.W.Frag} {mg : Str → Option Value} {base : Heap} {x : Xc} {ds : Str → Addr}
theorem same_none {H H1 : Hp} {p : Addr} (sm : Same H H1) (h : H1 p = none) : H p = none := by
  cases e : H p with
  | none => rfl
  | some o => rw [sm p o e] at h; cases h
theorem fd__law_start {f : Addr} {fd : FuncData} (F : Fun K "_law_start" "_law_start" s__law_start f fd) (ml : mg "list" = none) : FnOk P w K mg base (L2.CX P w) 1 f fd ["script"] (spStart K) := by
  refine F.okX sc__law_start (fun vs H Q E h => ?_) (fun cdv A outer s H vs Q E hr h => ?_)
  · obtain ⟨a, ns, rfl, _⟩ := h
    rfl
  · obtain ⟨a, ns, rfl, hS, hl, q⟩ := h
    refine ⟨_, pss_one (ps_ret (pe_lst (pa_cons (pe_ifExp (pt_cmpR (L2.op_neD hr.units) (pv 0) (pe_lst pa_nil) (nomark _)) (pe_callTy call_list_of rfl ml boot_list (pa_cons (pv 0) pa_nil)) (pe_lst (pa_cons pe_int pa_nil))) (pa_cons pe_int pa_nil)))), ?_⟩
    refine ⟨.ref a, rfl, Nat.zero_le _, fun e ne => ?_⟩
    have s1 : Same H (upd H e (.lst [])) := same_upd ne
    have sh : (D.list (ns.map D.int)).sh 64 := sh_list (n := 63) fun d hd => by
      obtain ⟨i, _, rfl⟩ := List.mem_map.mp hd
      exact sh_int' _ i
    have dp : ∀ (ns : List Int) (H : Hp), DpAll K H (ns.map V.int) (D.pys (ns.map D.int)) := fun ns H => by
      induction ns with
      | nil => exact .nil
      | cons n r ih => exact .cons (.int n) ih
    refine ⟨(D.list (ns.map D.int)).py, (D.list []).py, .lst (s1.seq hS) (dp ns _), .lst (SqL.of upd_same) .nil, sh.shaped, rfl, _, rfl, ?_⟩
    have fin : ∀ (H1 : Hp) (l : Addr) (xs : List Int), Same H H1 → H1 l = none → 0 < xs.length → xs.length ≤ 63 → 2 ≤ sizeLine ∧ ∀ p, (upd H1 l (.lst (xs.map V.int))) p = none → Q (.ref p) (upd (upd H1 l (.lst (xs.map V.int))) p (.lst [.ref l, .int 0])) := fun H1 l xs sm nl h0 h6 => ⟨by decide, fun p np => by
      have npl : p ≠ l := fun z => by rw [z, upd_same] at np; cases np
      have np1 : H1 p = none := by rw [upd_ne npl] at np; exact np
      refine q _ p l ((sm.trans (same_upd nl)).trans (same_upd np)) (same_none sm np1) (same_none sm nl) ⟨0, xs, upd_same, by rw [upd_ne npl.symm, upd_same], h0, h6, Int.le_refl _⟩⟩
    cases ns with
    | nil =>
      refine ite_f rfl ?_
      refine ⟨by decide, fun l nl => ?_⟩
      exact fin _ l [0] s1 nl (by decide) (by decide)
    | cons n r =>
      refine ite_t rfl ?_
      refine ⟨.ref a, rfl, a, _, rfl, .inl (s1.seq hS), fun l nl => ?_⟩
      exact fin _ l (n :: r) s1 nl (Nat.succ_pos _) hl
theorem fd__law_draw {f : Addr} {fd : FuncData} (F : Fun K "_law_draw" "_law_draw" s__law_draw f fd) (hm : mg "_law_draw" = some (.ref f)) (ml : mg "len" = none) : FnT P w K mg base 1 "_law_draw" 1 sp__law_draw := by
  refine ⟨⟨f, fd, ["draws", "limit"], F.okX sc__law_draw (fun vs H Q E h => ?_) (fun cdv A outer s H vs Q E hr h => ?_), hm, F.kp, F.binds (ps := ["draws", "limit"]) fun _ _ _ _ _ _ us hl => match us, hl with | [_, _], _ => rfl⟩, mo_draw⟩
  · obtain ⟨M, g, nn, us, ds, rfl, _, _, _, _, p, l, rfl, _⟩ := h
    rw [List.length_cons, HC.RpA.length p]
    rfl
  · obtain ⟨M, g, n, us, ds, rfl, dm, mg', mn, tok, p, l, rfl, l0, l1, q⟩ := h
    obtain ⟨v, rfl, p1⟩ : ∃ v, us = [v] ∧ Rp K P w M H v (.int l) := by
      cases p with
      | cons a b => cases b; exact ⟨_, rfl, a⟩
    cases p1
    have nd := sc__law_draw.nd
    refine ⟨_, pss_cons (ps_set (i := 2) nd rfl (.inl rfl) (pe_ix ix_list (pv 0) pe_int (fun _ _ => rfl)))
      (pss_cons (ps_asg (pe_op op_add (pe_ix ix_list (pv 0) pe_int (fun _ _ => rfl)) pe_int) (pg_sub (pv 0) pe_int set_list))
      (pss_cons (ps_set (i := 3) nd rfl (.inl rfl) (pe_op op_mod (pe_ix ix_list (pv 0) pe_int (fun _ _ => rfl)) (pe_callB call_len_seq rfl ml PySem.boot_len (pa_cons (pv 2) pa_nil))))
      (pss_cons (ps_set (i := 4) nd rfl (.inl rfl) (pe_ix ix_list (pv 2) (pv 3) (fun _ _ => rfl)))
      (pss_cons (ps_if (pt_cmpR op_ge (pv 4) pe_int (nomark _))
        (pss_cons (ps_asg (pe_op op_fdiv (pv 4) (pv 1)) (pg_sub (pv 2) (pv 3) set_list)) (pss_one (ps_ret (pe_op op_mod (pv 4) (pv 1))))) pss_nil)
      (pss_cons (ps_set (i := 5) nd rfl (.inl rfl) (pe_op op_mod (pe_op op_add (pv 4) (pe_op op_mul pe_int (pe_ix ix_list (pv 0) pe_int (fun _ _ => rfl)))) pe_int))
      (pss_cons (ps_set (i := 5) nd rfl (.inl rfl) (pe_op op_mod (pe_op op_pow (pv 5) pe_int) pe_int))
      (pss_one (ps_ret (pe_op op_mod (pe_op op_fdiv (pe_op op_mod (pe_op op_add (pe_op op_mul (pe_op op_fdiv (pv 5) pe_int) pe_int) (pv 5)) pe_int) pe_int) (pv 1)))))))))), ?_⟩
    obtain ⟨k, xs, e1, e2, h0, h6, hk⟩ := tok.ok
    have ngn : n ≠ g := fun z => by
      rw [z, e1] at e2
      injection e2 with e2
      injection e2 with e2
      cases xs with
      | nil => cases e2
      | cons a b => cases e2
    have f1 : (upd H g (.lst [.ref n, .int (k + 1)])) n = some (.lst (xs.map V.int)) := by rw [upd_ne ngn]; exact e2
    have em : ((k + 1) % (((xs.map V.int).length : Nat) : Int)).toNat < xs.length ∧ 0 ≤ (k + 1) % (((xs.map V.int).length : Nat) : Int) := by
      rw [List.length_map]
      have a := Int.emod_nonneg (k + 1) (b := (xs.length : Int)) (by omega)
      have b := Int.emod_lt_of_pos (k + 1) (b := (xs.length : Int)) (by omega)
      omega
    have hat : atI (xs.map V.int) ((k + 1) % (((xs.map V.int).length : Nat) : Int)) = some (.int (xs[((k + 1) % (((xs.map V.int).length : Nat) : Int)).toNat]'em.1)) := by
      have := atI_nat (xs := xs.map V.int) (j := ((k + 1) % (((xs.map V.int).length : Nat) : Int)).toNat) (v := .int (xs[((k + 1) % (((xs.map V.int).length : Nat) : Int)).toNat]'em.1)) (by
        rw [List.getElem?_map, List.getElem?_eq_getElem em.1]; rfl)
      rwa [Int.toNat_of_nonneg em.2] at this
    have hix : ixN (xs.map V.int).length ((k + 1) % (((xs.map V.int).length : Nat) : Int)) = some ((k + 1) % (((xs.map V.int).length : Nat) : Int)).toNat := by
      unfold ixN
      rw [if_pos em.2, if_pos (by have := em.1; rw [List.length_map] at *; omega)]
    generalize xs[((k + 1) % (((xs.map V.int).length : Nat) : Int)).toNat]'em.1 = cell at hat
    have hlen : (0 : Int) < (((xs.map V.int).length : Nat) : Int) := by rw [List.length_map]; omega
    refine ⟨.ref g, rfl, g, _, 0, .ref n, rfl, rfl, SqL.of e1, atI_nat (j := 0) rfl, ?_⟩
    refine ⟨.ref g, rfl, g, _, 1, .int k, rfl, rfl, SqL.of e1, atI_nat (j := 1) rfl, k, 1, rfl, rfl, .ref g, rfl, g, _, 1, 1, rfl, rfl, e1, rfl, ?_⟩
    refine ⟨.ref g, rfl, g, _, 1, .int (k + 1), rfl, rfl, SqL.of upd_same, atI_nat (j := 1) rfl, .ref n, rfl, n, _, rfl, .inl (SqL.of f1), k + 1, _, rfl, rfl, hlen, ?_⟩
    refine ⟨.ref n, rfl, .int _, rfl, n, _, _, .int cell, rfl, rfl, SqL.of f1, hat, ?_⟩
    have kp : ∀ a o, a ≠ g → a ≠ n → H a = some o → (upd H g (.lst [.ref n, .int (k + 1)])) a = some o := fun a o n1 n2 e => by rw [upd_ne n1]; exact e
    refine ⟨.int cell, rfl, _, _, rfl, rfl, _, rfl, ite2 (fun hc => ?_) (fun hc => ?_)⟩
    · refine ⟨.int cell, rfl, .int l, rfl, _, _, rfl, rfl, ⟨l0, l1⟩, .ref n, rfl, .int _, rfl, n, _, _, _, rfl, rfl, f1, hix, ?_⟩
      refine ⟨.int cell, rfl, .int l, rfl, _, _, rfl, rfl, l0, ?_⟩
      refine q _ (Int.emod_nonneg _ (by omega)) (Int.emod_lt_of_pos _ l0) _ _ (fun a o n1 n2 e => by rw [upd_ne n2]; exact kp a o n1 n2 e) ⟨k + 1, xs.set _ (cell / l), (by rw [upd_ne ngn.symm]; exact upd_same), by rw [upd_same, List.map_set], by rw [List.length_set]; exact h0, by rw [List.length_set]; exact h6, by omega⟩ (.int _)
    · refine ⟨.int cell, rfl, .ref g, rfl, g, _, 1, .int (k + 1), rfl, rfl, SqL.of upd_same, atI_nat (j := 1) rfl, _, _, rfl, rfl, .inl ⟨by decide, by decide⟩, _, _, rfl, rfl, _, _, rfl, rfl, (by show (0 : Int) < 4294967291; decide), ?_⟩
      have b1 := Int.emod_nonneg (cell + 104729 * (k + 1)) (b := 4294967291) (by omega)
      have b2 := Int.emod_lt_of_pos (cell + 104729 * (k + 1)) (b := 4294967291) (by omega)
      refine ⟨.int ((cell + 104729 * (k + 1)) % 4294967291), rfl, _, _, rfl, rfl, ⟨by decide, by decide, (by
        show ((cell + 104729 * (k + 1)) % 4294967291).natAbs < 2 ^ 64
        omega)⟩, _, _, rfl, rfl, (by show (0 : Int) < 4294967279; decide), ?_⟩
      refine ⟨.int (((cell + 104729 * (k + 1)) % 4294967291) ^ (5 : Int).toNat % 4294967279), rfl, _, _, rfl, rfl, ⟨by decide, by decide⟩, _, _, rfl, rfl, .inr ⟨by decide, by decide⟩, .int (((cell + 104729 * (k + 1)) % 4294967291) ^ (5 : Int).toNat % 4294967279), rfl, _, _, rfl, rfl, _, _, rfl, rfl, (by show (0 : Int) < 4294967231; decide), _, _, rfl, rfl, ⟨by decide, by decide⟩, .int l, rfl, _, _, rfl, rfl, l0, ?_⟩
      exact q _ (Int.emod_nonneg _ (by omega)) (Int.emod_lt_of_pos _ l0) _ _ kp ⟨k + 1, xs, upd_same, f1, h0, h6, by omega⟩ (.int _)
theorem fd_is_int {f : Addr} {fd : FuncData} (M : Mf K w mg x ds) (F : Fun K "is_int" "is_int" s_is_int f fd) (hm : mg "is_int" = some (.ref f)) : FnD P w K mg base 1 "is_int" 3 sp_is_int :=
  fn_D (k := 0) F sc_is_int (mo_is_int) rfl hm (F.binds (ps := ["value", "low", "high"]) fun _ _ _ _ _ _ us hl => match us, hl with | [_, _, _], _ => rfl) (fun cdv A outer s H E C W G tk nob => (dss_one (ds_ret (dv_and (dv_isi G (de_peek 0) M.m_isinstance M.m_int boot_int').q (dv_and (dv_not (dv_isi G (de_peek 0) M.m_isinstance M.m_bool boot_bool').q).q (dv_one (dv_chain (op_leD G.fit) (op_leD G.fit) (de_peek 1) (de_peek 0) (de_peek 2)))))))) (sem_is_int)
theorem fd_is_room {f : Addr} {fd : FuncData} (M : Mf K w mg x ds) (F : Fun K "is_room" "is_room" s_is_room f fd) (hm : mg "is_room" = some (.ref f)) (F_is_int : FnD P w K mg base 1 "is_int" 3 sp_is_int) : FnD P w K mg base 2 "is_room" 1 sp_is_room :=
  fn_D (k := 1) F sc_is_room (mo_is_room) rfl hm (F.binds (ps := ["value"]) fun _ _ _ _ _ _ us hl => match us, hl with | [_], _ => rfl) (fun cdv A outer s H E C W G tk nob => (dss_cons (ds_if (dw_or (dt_not (dt_val (dv_isi G (de_peek 0) M.m_isinstance M.m_tuple boot_tuple').q)) (dw_or (dt_cmp (op_neD' G.hu G.fit) (dv_callB (b_len G.fit) (daq_cons (de_peek 0) daq_nil) M.m_len boot_len').q dv_int.q) (dw_or1 (dt_not (dt_val (dv_call G F_is_int (dav_cons (dv_ix G (de_peek 0) dv_int.q) (dav_cons dv_int (dav_cons dv_int dav_nil)))).q))))).t (dss_one (ds_ret dv_bl)) dss_nil)
    (dss_one (ds_ret (dv_and (dv_call G F_is_int (dav_cons (dv_ix G (de_peek 0) dv_int.q) (dav_cons dv_int (dav_cons (dv_ix G (de_peek 0) dv_int.q) dav_nil)))).q (dv_one (dv_call G F_is_int (dav_cons (dv_ix G (de_peek 0) dv_int.q) (dav_cons dv_int (dav_cons dv_int dav_nil)))))))))) (sem_is_room)
theorem fd_check_room {f : Addr} {fd : FuncData} (M : Mf K w mg x ds) (F : Fun K "check_room" "check_room" s_check_room f fd) (hm : mg "check_room" = some (.ref f)) (F_is_room : FnD P w K mg base 2 "is_room" 1 sp_is_room) : FnD P w K mg base 3 "check_room" 1 (sp_check_room x) :=
  fn_D (k := 2) F sc_check_room (mo_check_room x) rfl hm (F.binds (ps := ["value"]) fun _ _ _ _ _ _ us hl => match us, hl with | [_], _ => rfl) (fun cdv A outer s H E C W G tk nob => (dss_one (ds_if (dt_not (dt_val (dv_call G F_is_room (dav_cons (dv_var 0) dav_nil)).q)) (dss_one (ds_raise G tk M.x_BadRoom)) dss_nil))) (sem_check_room x)
theorem fd_is_for {f : Addr} {fd : FuncData} (M : Mf K w mg x ds) (F : Fun K "is_for" "is_for" s_is_for f fd) (hm : mg "is_for" = some (.ref f)) (F_is_int : FnD P w K mg base 1 "is_int" 3 sp_is_int) : FnD P w K mg base 2 "is_for" 2 sp_is_for :=
  fn_D (k := 1) F sc_is_for (mo_is_for) rfl hm (F.binds (ps := ["value", "top"]) fun _ _ _ _ _ _ us hl => match us, hl with | [_, _], _ => rfl) (fun cdv A outer s H E C W G tk nob => (dss_cons (ds_if (dw_or (dt_not (dt_val (dv_isi G (de_peek 0) M.m_isinstance M.m_tuple boot_tuple').q)) (dw_or (dt_cmp (op_eqD' G.hu G.fit) (dv_callB (b_len G.fit) (daq_cons (de_peek 0) daq_nil) M.m_len boot_len').q dv_int.q) (dw_or (dt_not (dt_val (dv_isi G (dv_ix G (de_peek 0) dv_int.q).q M.m_isinstance M.m_str boot_str').q)) (dw_or1 (dt_tabNotIn M.k_SIZES.2 (dv_ix G (de_peek 0) dv_int.q).q M.k_SIZES.1))))).t (dss_one (ds_ret dv_bl)) dss_nil)
    (dss_cons (ds_if (dw_or (dt_cmp (op_neD' G.hu G.fit) (dv_callB (b_len G.fit) (daq_cons (de_peek 0) daq_nil) M.m_len boot_len').q (dv_tabAt (es := []) M.k_SIZES.2 (dv_ix G (de_peek 0) dv_int.q).q M.k_SIZES.1).q) (dw_or (dt_not (dt_val (dv_call G F_is_int (dav_cons (dv_ix G (de_peek 0) dv_int.q) (dav_cons dv_int (dav_cons (dv_var 1) dav_nil)))).q)) (dw_or1 (dt_not (dt_val (dv_call G F_is_int (dav_cons (dv_ix G (de_peek 0) dv_int.q) (dav_cons (dv_op (op_addD G.fit) (dv_ix G (de_peek 0) dv_int.q).q dv_int.q) (dav_cons (dv_var 1) dav_nil)))).q))))).t (dss_one (ds_ret dv_bl)) dss_nil)
    (dss_one (ds_ret (dv_or (dv_cmp (op_eqD' G.hu G.fit) (dv_callB (b_len G.fit) (daq_cons (de_peek 0) daq_nil) M.m_len boot_len').q dv_int.q).q (dv_one (dv_call G F_is_int (dav_cons (dv_ix G (de_peek 0) dv_int.q) (dav_cons dv_int (dav_cons dv_int dav_nil))))))))))) (sem_is_for)
theorem fd_check_regulator {f : Addr} {fd : FuncData} (M : Mf K w mg x ds) (F : Fun K "check_regulator" "check_regulator" s_check_regulator f fd) (hm : mg "check_regulator" = some (.ref f)) (F_check_room : FnD P w K mg base 3 "check_room" 1 (sp_check_room x)) (F_is_for : FnD P w K mg base 2 "is_for" 2 sp_is_for) : FnD P w K mg base 4 "check_regulator" 2 (sp_check_regulator x) :=
  fn_D (k := 3) F sc_check_regulator (mo_check_regulator x) rfl hm (F.binds (ps := ["room", "value"]) fun _ _ _ _ _ _ us hl => match us, hl with | [_, _], _ => rfl) (fun cdv A outer s H E C W G tk nob => (dss_cons (ds_expr (dv_call G F_check_room (dav_cons (dv_var 0) dav_nil)).q)
    (dss_one (ds_if (dt_not (dt_val (dv_call G F_is_for (dav_cons (dv_var 1) (dav_cons (dv_ix G (de_peek 0) dv_int.q) dav_nil))).q)) (dss_one (ds_raise G tk M.x_BadRegulator)) dss_nil)))) (sem_check_regulator x)
theorem fd_is_weather {f : Addr} {fd : FuncData} (M : Mf K w mg x ds) (F : Fun K "is_weather" "is_weather" s_is_weather f fd) (hm : mg "is_weather" = some (.ref f)) (F_is_int : FnD P w K mg base 1 "is_int" 3 sp_is_int) : FnD P w K mg base 2 "is_weather" 1 sp_is_weather :=
  fn_D (k := 1) F sc_is_weather (mo_is_weather) rfl hm (F.binds (ps := ["value"]) fun _ _ _ _ _ _ us hl => match us, hl with | [_], _ => rfl) (fun cdv A outer s H E C W G tk nob => (dss_one (ds_ret (dv_call G F_is_int (dav_cons (dv_var 0) (dav_cons dv_int (dav_cons dv_int dav_nil))))))) (sem_is_weather)
theorem fd_is_row {f : Addr} {fd : FuncData} (M : Mf K w mg x ds) (F : Fun K "is_row" "is_row" s_is_row f fd) (hm : mg "is_row" = some (.ref f)) (F_is_weather : FnD P w K mg base 2 "is_weather" 1 sp_is_weather) : FnD P w K mg base 3 "is_row" 1 sp_is_row :=
  fn_D (k := 2) F sc_is_row (mo_is_row) rfl hm (F.binds (ps := ["value"]) fun _ _ _ _ _ _ us hl => match us, hl with | [_], _ => rfl) (fun cdv A outer s H E C W G tk nob => (dss_one (ds_ret (dv_and (dv_isi G (de_peek 0) M.m_isinstance M.m_list boot_list').q (dv_and (dv_cmp (op_leD G.fit) (dv_callB (b_len G.fit) (daq_cons (de_peek 0) daq_nil) M.m_len boot_len').q (dv_globI M.c_MOST_ROW).q).q (dv_one (dv_callB (b_all G) (daq_cons (dn_comp [("one", 1)] G (di_seq G (dv_var 0)) (blkOk_by (N := ["value", "one"]) (sc := defScope s_is_row) (by decide +kernel)) (fun _ _ _ _ _ G1 => (dg_name 1 G1.nd)) (fun _ _ _ _ _ _ => dts_nil) (fun _ _ _ _ _ G1 => (dv_call G1 F_is_weather (dav_cons (dv_var 1) dav_nil)))).v.q daq_nil) M.m_all boot_all'))))))) (sem_is_row)
theorem fd_check_row {f : Addr} {fd : FuncData} (M : Mf K w mg x ds) (F : Fun K "check_row" "check_row" s_check_row f fd) (hm : mg "check_row" = some (.ref f)) (F_is_row : FnD P w K mg base 3 "is_row" 1 sp_is_row) : FnD P w K mg base 4 "check_row" 1 (sp_check_row x) :=
  fn_D (k := 3) F sc_check_row (mo_check_row x) rfl hm (F.binds (ps := ["value"]) fun _ _ _ _ _ _ us hl => match us, hl with | [_], _ => rfl) (fun cdv A outer s H E C W G tk nob => (dss_one (ds_if (dt_not (dt_val (dv_call G F_is_row (dav_cons (dv_var 0) dav_nil)).q)) (dss_one (ds_raise G tk M.x_BadWeather)) dss_nil))) (sem_check_row x)
theorem fd_check_number {f : Addr} {fd : FuncData} (M : Mf K w mg x ds) (F : Fun K "check_number" "check_number" s_check_number f fd) (hm : mg "check_number" = some (.ref f)) (F_is_int : FnD P w K mg base 1 "is_int" 3 sp_is_int) : FnD P w K mg base 2 "check_number" 3 (sp_check_number x) :=
  fn_D (k := 1) F sc_check_number (mo_check_number x) rfl hm (F.binds (ps := ["value", "low", "high"]) fun _ _ _ _ _ _ us hl => match us, hl with | [_, _, _], _ => rfl) (fun cdv A outer s H E C W G tk nob => (dss_one (ds_if (dt_not (dt_val (dv_call G F_is_int (dav_cons (dv_var 0) (dav_cons (dv_var 1) (dav_cons (dv_var 2) dav_nil)))).q)) (dss_one (ds_raise G tk M.x_BadNumber)) dss_nil))) (sem_check_number x)
theorem fd_check_sight {f : Addr} {fd : FuncData} (M : Mf K w mg x ds) (F : Fun K "check_sight" "check_sight" s_check_sight f fd) (hm : mg "check_sight" = some (.ref f)) (F_check_number : FnD P w K mg base 2 "check_number" 3 (sp_check_number x)) : FnD P w K mg base 3 "check_sight" 1 (sp_check_sight x) :=
  fn_D (k := 2) F sc_check_sight (mo_check_sight x) rfl hm (F.binds (ps := ["value"]) fun _ _ _ _ _ _ us hl => match us, hl with | [_], _ => rfl) (fun cdv A outer s H E C W G tk nob => (dss_one (ds_expr (dv_call G F_check_number (dav_cons (dv_var 0) (dav_cons dv_int (dav_cons dv_int dav_nil)))).q))) (sem_check_sight x)
theorem fd_mark_of {f : Addr} {fd : FuncData} (M : Mf K w mg x ds) (F : Fun K "mark_of" "mark_of" s_mark_of f fd) (hm : mg "mark_of" = some (.ref f)) : FnD P w K mg base 1 "mark_of" 2 sp_mark_of :=
  fn_D (k := 0) F sc_mark_of (mo_mark_of) rfl hm (F.binds (ps := ["state", "sight"]) fun _ _ _ _ _ _ us hl => match us, hl with | [_, _], _ => rfl) (fun cdv A outer s H E C W G tk nob => (dss_one (ds_ret (dv_if (dt_cmp (op_eqD' G.hu G.fit) (de_peek 1) dv_int.q) (dv_ix G (de_peek 0) dv_int.q) (dv_tup (dav_cons (dv_ix G (de_peek 0) dv_int.q) (dav_cons (dv_ix G (de_peek 0) dv_int.q) dav_nil))))))) (sem_mark_of)
theorem fd_first_state {f : Addr} {fd : FuncData} (M : Mf K w mg x ds) (F : Fun K "first_state" "first_state" s_first_state f fd) (hm : mg "first_state" = some (.ref f)) : FnD P w K mg base 1 "first_state" 1 sp_first_state :=
  fn_D (k := 0) F sc_first_state (mo_first_state) rfl hm (F.binds (ps := ["room"]) fun _ _ _ _ _ _ us hl => match us, hl with | [_], _ => rfl) (fun cdv A outer s H E C W G tk nob => (dss_one (ds_ret (dv_tup (dav_cons (dv_ix G (de_peek 0) dv_int.q) (dav_cons dv_int (dav_cons dv_int dav_nil))))))) (sem_first_state)
theorem fd_warmed {f : Addr} {fd : FuncData} (M : Mf K w mg x ds) (F : Fun K "warmed" "warmed" s_warmed f fd) (hm : mg "warmed" = some (.ref f)) : FnD P w K mg base 1 "warmed" 4 sp_warmed :=
  fn_D (k := 0) F sc_warmed (mo_warmed) rfl hm (F.binds (ps := ["room", "heat", "switch", "weather"]) fun _ _ _ _ _ _ us hl => match us, hl with | [_, _, _, _], _ => rfl) (fun cdv A outer s H E C W G tk nob => (dss_one (ds_ret (dv_callB (b_min G) (daq_cons (dv_ix G (de_peek 0) dv_int.q).q (daq_cons (dv_callB (b_max G) (daq_cons dv_int.q (daq_cons (dv_op (op_addD G.fit) (dv_op (op_subD G.fit) (de_peek 1) (de_peek 3)).q (dv_if (dt_cmp (op_eqD' G.hu G.fit) (de_peek 2) dv_int.q) (dv_ix G (de_peek 0) dv_int.q) dv_int).q).q daq_nil)) M.m_max boot_max').q daq_nil)) M.m_min boot_min')))) (sem_warmed)
theorem fd_decided {f : Addr} {fd : FuncData} (M : Mf K w mg x ds) (F : Fun K "decided" "decided" s_decided f fd) (hm : mg "decided" = some (.ref f)) : FnD P w K mg base 1 "decided" 4 sp_decided :=
  fn_D (k := 0) F sc_decided (mo_decided) rfl hm (F.binds (ps := ["heat", "low", "high", "switch"]) fun _ _ _ _ _ _ us hl => match us, hl with | [_, _, _, _], _ => rfl) (fun cdv A outer s H E C W G tk nob => (dss_cons (ds_if (dt_cmp (op_leD G.fit) (de_peek 0) (de_peek 1)) (dss_one (ds_ret dv_int)) dss_nil)
    (dss_one (ds_ret (dv_if (dt_cmp (op_geD G.fit) (de_peek 0) (de_peek 2)) dv_int (dv_var 3)))))) (sem_decided)
theorem fd_set_switch {f : Addr} {fd : FuncData} (M : Mf K w mg x ds) (F : Fun K "set_switch" "set_switch" s_set_switch f fd) (hm : mg "set_switch" = some (.ref f)) (F_decided : FnD P w K mg base 1 "decided" 4 sp_decided) : FnD P w K mg base 2 "set_switch" 5 sp_set_switch :=
  fn_D (k := 1) F sc_set_switch (mo_set_switch) rfl hm (F.binds (ps := ["regulator", "before", "heat", "switch", "memory"]) fun _ _ _ _ _ _ us hl => match us, hl with | [_, _, _, _, _], _ => rfl) (fun cdv A outer s H E C W G tk nob => (dss_cons (ds_unp (dv_slice G.fit (de_peek 0) do_none (do_some dv_int.q)) (dg_tup G (dgs_cons (dg_name 5 G.nd) (dgs_cons (dg_name 6 G.nd) (dgs_cons (dg_name 7 G.nd) dgs_nil)))))
    (dss_cons (ds_if (dt_cmp (op_eqD' G.hu G.fit) (de_peek 5) dv_str.q) (dss_one (ds_ret (dv_tup (dav_cons (dv_call G F_decided (dav_cons (dv_var 2) (dav_cons (dv_var 6) (dav_cons (dv_var 7) (dav_cons (dv_var 3) dav_nil))))) (dav_cons dv_int dav_nil))))) dss_nil)
    (dss_cons (ds_if (dt_cmp (op_eqD' G.hu G.fit) (de_peek 5) dv_str.q) (dss_one (ds_ret (dv_tup (dav_cons (dv_call G F_decided (dav_cons (dv_var 1) (dav_cons (dv_var 6) (dav_cons (dv_var 7) (dav_cons (dv_var 3) dav_nil))))) (dav_cons dv_int dav_nil))))) dss_nil)
    (dss_cons (ds_if (dt_cmp (op_eqD' G.hu G.fit) (de_peek 5) dv_str.q) (dss_cons (ds_asg 8 G (dv_call G F_decided (dav_cons (dv_var 2) (dav_cons (dv_var 6) (dav_cons (dv_op (op_subD G.fit) (de_peek 7) (de_peek 4)) (dav_cons (dv_var 3) dav_nil))))).x)
    (dss_one (ds_ret (dv_tup (dav_cons (dv_var 8) (dav_cons (dv_if (dt_cmp (op_eqD' G.hu G.fit) (de_peek 8) dv_int.q) (dv_callB (b_min G) (daq_cons (dv_op (op_addD G.fit) (de_peek 4) dv_int.q).q (daq_cons (dv_op (op_subD G.fit) (dv_op (op_subD G.fit) (de_peek 7) (de_peek 6)).q dv_int.q).q daq_nil)) M.m_min boot_min') dv_int) dav_nil)))))) dss_nil)
    (dss_cons (ds_if (dt_cmp (op_gtD G.fit) (de_peek 4) dv_int.q) (dss_one (ds_ret (dv_tup (dav_cons (dv_var 3) (dav_cons (dv_op (op_subD G.fit) (de_peek 4) dv_int.q) dav_nil))))) dss_nil)
    (dss_cons (ds_asg 8 G (dv_call G F_decided (dav_cons (dv_var 2) (dav_cons (dv_var 6) (dav_cons (dv_var 7) (dav_cons (dv_var 3) dav_nil))))).x)
    (dss_one (ds_ret (dv_tup (dav_cons (dv_var 8) (dav_cons (dv_if (dw_or (dt_cmp (op_eqD' G.hu G.fit) (de_peek 5) dv_str.q) (dw_or1 (dt_cmp (op_neD' G.hu G.fit) (de_peek 8) (de_peek 3)))).t (dv_op (op_subD G.fit) (dv_ix G (de_peek 0) dv_int.q).q dv_int.q) dv_int) dav_nil)))))))))))) (sem_set_switch)
theorem fd_step {f : Addr} {fd : FuncData} (M : Mf K w mg x ds) (F : Fun K "step" "step" s_step f fd) (hm : mg "step" = some (.ref f)) (F_warmed : FnD P w K mg base 1 "warmed" 4 sp_warmed) (F_set_switch : FnD P w K mg base 2 "set_switch" 5 sp_set_switch) : FnD P w K mg base 3 "step" 4 sp_step :=
  fn_D (k := 2) F sc_step (mo_step) rfl hm (F.binds (ps := ["room", "regulator", "state", "weather"]) fun _ _ _ _ _ _ us hl => match us, hl with | [_, _, _, _], _ => rfl) (fun cdv A outer s H E C W G tk nob => (dss_cons (ds_unp (dv_var 2) (dg_tup G (dgs_cons (dg_name 4 G.nd) (dgs_cons (dg_name 5 G.nd) (dgs_cons (dg_name 6 G.nd) dgs_nil)))))
    (dss_cons (ds_asg 7 G (dv_call G F_warmed (dav_cons (dv_var 0) (dav_cons (dv_var 4) (dav_cons (dv_var 5) (dav_cons (dv_var 3) dav_nil))))).x)
    (dss_one (ds_ret (dv_op (op_addD G.fit) (dv_tup (dav_cons (dv_var 7) dav_nil)).q (dv_call G F_set_switch (dav_cons (dv_var 1) (dav_cons (dv_var 4) (dav_cons (dv_var 7) (dav_cons (dv_var 5) (dav_cons (dv_var 6) dav_nil)))))).q)))))) (sem_step)
theorem fd_states_of {f : Addr} {fd : FuncData} (M : Mf K w mg x ds) (F : Fun K "states_of" "states_of" s_states_of f fd) (hm : mg "states_of" = some (.ref f)) (F_first_state : FnD P w K mg base 1 "first_state" 1 sp_first_state) (F_step : FnD P w K mg base 3 "step" 4 sp_step) : FnD P w K mg base 4 "states_of" 3 sp_states_of :=
  fn_D (k := 3) F sc_states_of (mo_states_of) rfl hm (F.binds (ps := ["room", "regulator", "row"]) fun _ _ _ _ _ _ us hl => match us, hl with | [_, _, _], _ => rfl) (fun cdv A outer s H E C W G tk nob => (dss_cons (ds_asg 3 G (dn_lst (dav_cons (dv_call G F_first_state (dav_cons (dv_var 0) dav_nil)) dav_nil)).x)
    (dss_cons (ds_for G (di_seq G (dv_var 2)) (dg_name 4 G.nd) (dss_one (ds_app 3 G (dv_call G F_step (dav_cons (dv_var 0) (dav_cons (dv_var 1) (dav_cons (dv_ix G (de_peek 3) (dv_neg dv_int.q).q) (dav_cons (dv_var 4) dav_nil))))))))
    (dss_one (ds_frz 3 (ds_ret (dv_var 3))))))) (sem_states_of)
theorem fd_marks_of {f : Addr} {fd : FuncData} (M : Mf K w mg x ds) (F : Fun K "marks_of" "marks_of" s_marks_of f fd) (hm : mg "marks_of" = some (.ref f)) (F_check_regulator : FnD P w K mg base 4 "check_regulator" 2 (sp_check_regulator x)) (F_check_row : FnD P w K mg base 4 "check_row" 1 (sp_check_row x)) (F_check_sight : FnD P w K mg base 3 "check_sight" 1 (sp_check_sight x)) (F_mark_of : FnD P w K mg base 1 "mark_of" 2 sp_mark_of) (F_states_of : FnD P w K mg base 4 "states_of" 3 sp_states_of) : FnD P w K mg base 5 "marks_of" 4 (sp_marks_of x) :=
  fn_D (k := 4) F sc_marks_of (mo_marks_of x) rfl hm (F.binds (ps := ["room", "regulator", "row", "sight"]) fun _ _ _ _ _ _ us hl => match us, hl with | [_, _, _, _], _ => rfl) (fun cdv A outer s H E C W G tk nob => (dss_cons (ds_expr (dv_call G F_check_regulator (dav_cons (dv_var 0) (dav_cons (dv_var 1) dav_nil))).q)
    (dss_cons (ds_expr (dv_call G F_check_row (dav_cons (dv_var 2) dav_nil)).q)
    (dss_cons (ds_expr (dv_call G F_check_sight (dav_cons (dv_var 3) dav_nil)).q)
    (dss_one (ds_ret (dn_comp [("state", 4)] G (di_seq G (dv_slice G.fit (dv_call G F_states_of (dav_cons (dv_var 0) (dav_cons (dv_var 1) (dav_cons (dv_var 2) dav_nil)))).q (do_some dv_int.q) do_none)) (blkOk_by (N := ["room", "regulator", "row", "sight", "state"]) (sc := defScope s_marks_of) (by decide +kernel)) (fun _ _ _ _ _ G1 => (dg_name 4 G1.nd)) (fun _ _ _ _ _ _ => dts_nil) (fun _ _ _ _ _ G1 => (dv_call G1 F_mark_of (dav_cons (dv_var 4) (dav_cons (dv_var 3) dav_nil))))).v)))))) (sem_marks_of x)
theorem fd_is_mark {f : Addr} {fd : FuncData} (M : Mf K w mg x ds) (F : Fun K "is_mark" "is_mark" s_is_mark f fd) (hm : mg "is_mark" = some (.ref f)) (F_is_int : FnD P w K mg base 1 "is_int" 3 sp_is_int) : FnD P w K mg base 2 "is_mark" 3 sp_is_mark :=
  fn_D (k := 1) F sc_is_mark (mo_is_mark) rfl hm (F.binds (ps := ["value", "top", "sight"]) fun _ _ _ _ _ _ us hl => match us, hl with | [_, _, _], _ => rfl) (fun cdv A outer s H E C W G tk nob => (dss_cons (ds_if (dt_cmp (op_eqD' G.hu G.fit) (de_peek 2) dv_int.q) (dss_one (ds_ret (dv_call G F_is_int (dav_cons (dv_var 0) (dav_cons dv_int (dav_cons dv_int dav_nil)))))) dss_nil)
    (dss_cons (ds_if (dw_or (dt_not (dt_val (dv_isi G (de_peek 0) M.m_isinstance M.m_tuple boot_tuple').q)) (dw_or1 (dt_cmp (op_neD' G.hu G.fit) (dv_callB (b_len G.fit) (daq_cons (de_peek 0) daq_nil) M.m_len boot_len').q dv_int.q))).t (dss_one (ds_ret dv_bl)) dss_nil)
    (dss_one (ds_ret (dv_and (dv_call G F_is_int (dav_cons (dv_ix G (de_peek 0) dv_int.q) (dav_cons dv_int (dav_cons dv_int dav_nil)))).q (dv_one (dv_call G F_is_int (dav_cons (dv_ix G (de_peek 0) dv_int.q) (dav_cons dv_int (dav_cons (dv_var 1) dav_nil))))))))))) (sem_is_mark)
theorem fd_is_mark_row {f : Addr} {fd : FuncData} (M : Mf K w mg x ds) (F : Fun K "is_mark_row" "is_mark_row" s_is_mark_row f fd) (hm : mg "is_mark_row" = some (.ref f)) (F_is_mark : FnD P w K mg base 2 "is_mark" 3 sp_is_mark) : FnD P w K mg base 3 "is_mark_row" 3 sp_is_mark_row :=
  fn_D (k := 2) F sc_is_mark_row (mo_is_mark_row) rfl hm (F.binds (ps := ["value", "top", "sight"]) fun _ _ _ _ _ _ us hl => match us, hl with | [_, _, _], _ => rfl) (fun cdv A outer s H E C W G tk nob => (dss_cons (ds_if (dw_or (dt_not (dt_val (dv_isi G (de_peek 0) M.m_isinstance M.m_list boot_list').q)) (dw_or1 (dt_cmp (op_gtD G.fit) (dv_callB (b_len G.fit) (daq_cons (de_peek 0) daq_nil) M.m_len boot_len').q (dv_globI M.c_MOST_MARKS).q))).t (dss_one (ds_ret dv_bl)) dss_nil)
    (dss_one (ds_ret (dv_callB (b_all G) (daq_cons (dn_comp [("one", 3)] G (di_seq G (dv_var 0)) (blkOk_by (N := ["value", "top", "sight", "one"]) (sc := defScope s_is_mark_row) (by decide +kernel)) (fun _ _ _ _ _ G1 => (dg_name 3 G1.nd)) (fun _ _ _ _ _ _ => dts_nil) (fun _ _ _ _ _ G1 => (dv_call G1 F_is_mark (dav_cons (dv_var 3) (dav_cons (dv_var 1) (dav_cons (dv_var 2) dav_nil)))))).v.q daq_nil) M.m_all boot_all'))))) (sem_is_mark_row)
theorem fd_are_marks {f : Addr} {fd : FuncData} (M : Mf K w mg x ds) (F : Fun K "are_marks" "are_marks" s_are_marks f fd) (hm : mg "are_marks" = some (.ref f)) (F_is_mark_row : FnD P w K mg base 3 "is_mark_row" 3 sp_is_mark_row) : FnD P w K mg base 4 "are_marks" 1 sp_are_marks :=
  fn_D (k := 3) F sc_are_marks (mo_are_marks) rfl hm (F.binds (ps := ["value"]) fun _ _ _ _ _ _ us hl => match us, hl with | [_], _ => rfl) (fun cdv A outer s H E C W G tk nob => (dss_one (ds_ret (dv_or (dv_call G F_is_mark_row (dav_cons (dv_var 0) (dav_cons (dv_globI M.c_WIDEST) (dav_cons dv_int dav_nil)))).q (dv_one (dv_call G F_is_mark_row (dav_cons (dv_var 0) (dav_cons (dv_globI M.c_WIDEST) (dav_cons dv_int dav_nil))))))))) (sem_are_marks)
theorem fd_mark_text {f : Addr} {fd : FuncData} (M : Mf K w mg x ds) (F : Fun K "mark_text" "mark_text" s_mark_text f fd) (hm : mg "mark_text" = some (.ref f)) : FnD P w K mg base 1 "mark_text" 1 sp_mark_text :=
  fn_D (k := 0) F sc_mark_text (mo_mark_text) rfl hm (F.binds (ps := ["mark"]) fun _ _ _ _ _ _ us hl => match us, hl with | [_], _ => rfl) (fun cdv A outer s H E C W G tk nob => (dss_cons (ds_if (dt_not (dt_val (dv_isi G (de_peek 0) M.m_isinstance M.m_tuple boot_tuple').q)) (dss_one (ds_ret (dv_ix G dv_str.q (de_peek 0)))) dss_nil)
    (dss_one (ds_ret (dv_op (op_addD G.fit) (dv_ix G dv_str.q (dv_ix G (de_peek 0) dv_int.q).q).q (dv_callTy (b_str) (daq_cons (dv_ix G (de_peek 0) dv_int.q).q daq_nil) M.m_str boot_str').q))))) (sem_mark_text)
theorem fd_format_marks {f : Addr} {fd : FuncData} (M : Mf K w mg x ds) (F : Fun K "format_marks" "format_marks" s_format_marks f fd) (hm : mg "format_marks" = some (.ref f)) (F_are_marks : FnD P w K mg base 4 "are_marks" 1 sp_are_marks) (F_mark_text : FnD P w K mg base 1 "mark_text" 1 sp_mark_text) : FnD P w K mg base 5 "format_marks" 1 (sp_format_marks x) :=
  fn_D (k := 4) F sc_format_marks (mo_format_marks x) rfl hm (F.binds (ps := ["marks"]) fun _ _ _ _ _ _ us hl => match us, hl with | [_], _ => rfl) (fun cdv A outer s H E C W G tk nob => (dss_cons (ds_if (dt_not (dt_val (dv_call G F_are_marks (dav_cons (dv_var 0) dav_nil)).q)) (dss_one (ds_raise G tk M.x_BadMarks)) dss_nil)
    (dss_one (ds_ret (dv_methS G PySem.F.slot_str_join PySem.F.type_str_join (mt_joinD G.fit) mo_join dv_str.q (daq_cons (dn_comp [("one", 1)] G (di_seq G (dv_var 0)) (blkOk_by (N := ["marks", "one"]) (sc := defScope s_format_marks) (by decide +kernel)) (fun _ _ _ _ _ G1 => (dg_name 1 G1.nd)) (fun _ _ _ _ _ _ => dts_nil) (fun _ _ _ _ _ G1 => (dv_call G1 F_mark_text (dav_cons (dv_var 1) dav_nil)))).v.q daq_nil)))))) (sem_format_marks x)
theorem fd_check_text {f : Addr} {fd : FuncData} (M : Mf K w mg x ds) (F : Fun K "check_text" "check_text" s_check_text f fd) (hm : mg "check_text" = some (.ref f)) : FnD P w K mg base 1 "check_text" 1 (sp_check_text x) :=
  fn_D (k := 0) F sc_check_text (mo_check_text x) rfl hm (F.binds (ps := ["text"]) fun _ _ _ _ _ _ us hl => match us, hl with | [_], _ => rfl) (fun cdv A outer s H E C W G tk nob => (dss_one (ds_if (dt_not (dt_val (dv_isi G (de_peek 0) M.m_isinstance M.m_str boot_str').q)) (dss_one (ds_raise G tk M.x_BadText)) dss_nil))) (sem_check_text x)
theorem fd_mark_in {f : Addr} {fd : FuncData} (M : Mf K w mg x ds) (F : Fun K "mark_in" "mark_in" s_mark_in f fd) (hm : mg "mark_in" = some (.ref f)) : FnD P w K mg base 1 "mark_in" 1 (sp_mark_in x) :=
  fn_D (k := 0) F sc_mark_in (mo_mark_in x) rfl hm (F.binds (ps := ["word"]) fun _ _ _ _ _ _ us hl => match us, hl with | [_], _ => rfl) (fun cdv A outer s H E C W G tk nob => (dss_cons (ds_if (dw_or (dt_cmp (op_notInD' G.hu65 G.fit) (dv_sliceT G.fit (de_peek 0) do_none (do_some dv_int.q)).q (dv_tup (dav_cons dv_str (dav_cons dv_str dav_nil))).q) (dw_or1 (dt_cmp (op_notInD' G.hu65 G.fit) (dv_sliceT G.fit (de_peek 0) (do_some dv_int.q) do_none).q (dv_op (op_addD G.fit) (dv_tup (dav_cons dv_str dav_nil)).q (dv_globT G M.c_HEATS.flat).q).q))).t (dss_one (ds_raise G tk M.x_BadText)) dss_nil)
    (dss_cons (ds_asg 1 G (dv_methS G PySem.F.slot_str_index PySem.F.type_str_index (mt_sindexD G.fit) mo_sindex dv_str.q (daq_cons (dv_ix G (de_peek 0) dv_int.q).q daq_nil)).x)
    (dss_one (ds_ret (dv_if (dt_cmp (op_eqD' G.hu G.fit) (dv_callB (b_len G.fit) (daq_cons (de_peek 0) daq_nil) M.m_len boot_len').q dv_int.q) (dv_var 1) (dv_tup (dav_cons (dv_var 1) (dav_cons (dv_tindex G M.c_HEATS (daq_cons (dv_sliceT G.fit (de_peek 0) (do_some dv_int.q) do_none).q daq_nil)) dav_nil))))))))) (sem_mark_in x)
theorem fd_parse_marks {f : Addr} {fd : FuncData} (M : Mf K w mg x ds) (F : Fun K "parse_marks" "parse_marks" s_parse_marks f fd) (hm : mg "parse_marks" = some (.ref f)) (F_check_text : FnD P w K mg base 1 "check_text" 1 (sp_check_text x)) (F_are_marks : FnD P w K mg base 4 "are_marks" 1 sp_are_marks) (F_mark_in : FnD P w K mg base 1 "mark_in" 1 (sp_mark_in x)) : FnD P w K mg base 5 "parse_marks" 1 (sp_parse_marks x) :=
  fn_D (k := 4) F sc_parse_marks (mo_parse_marks x) rfl hm (F.binds (ps := ["text"]) fun _ _ _ _ _ _ us hl => match us, hl with | [_], _ => rfl) (fun cdv A outer s H E C W G tk nob => (dss_cons (ds_expr (dv_call G F_check_text (dav_cons (dv_var 0) dav_nil)).q)
    (dss_cons (ds_asg 1 G (dv_if (dt_cmp (op_neD' G.hu G.fit) (de_peek 0) dv_str.q) (dn_compX [("word", 2)] G tk (di_seq G (dv_methS G PySem.F.slot_str_split PySem.F.type_str_split (mt_splitD G.fit) mo_split (de_peek 0) (daq_cons dv_str.q daq_nil))) (blkOk_by (N := ["text", "found", "word"]) (sc := defScope s_parse_marks) (by decide +kernel)) (fun _ _ _ _ _ G1 => (dg_name 2 G1.nd)) (fun Eb sB HB Ca cl fpB => dv_callX G F_mark_in Eb sB HB fpB (dav_cons (dv_var 2) dav_nil))).v (dn_lst dav_nil).v).x)
    (dss_cons (ds_if (dt_not (dt_val (dv_call G F_are_marks (dav_cons (dv_var 1) dav_nil)).q)) (dss_one (ds_raise G tk M.x_BadText)) dss_nil)
    (dss_one (ds_ret (dv_var 1))))))) (sem_parse_marks x)
theorem fd__law_error {f : Addr} {fd : FuncData} (M : Mf K w mg x ds) (F : Fun K "_law_error" "_law_error" s__law_error f fd) (hm : mg "_law_error" = some (.ref f)) : FnD P w K mg base 1 "_law_error" 1 (sp__law_error x) :=
  fn_D (k := 0) F sc__law_error (mo__law_error x) rfl hm (F.binds (ps := ["caught"]) fun _ _ _ _ _ _ us hl => match us, hl with | [_], _ => rfl) (fun cdv A outer s H E C W G tk nob => (dss_cons (ds_asg 1 G (dn_lst (dav_cons (dv_isX G (de_peek 0) M.m_isinstance M.x_BadRoom.g (M.xa.isK (by simp [Xc.all]))) (dav_cons (dv_isX G (de_peek 0) M.m_isinstance M.x_BadRegulator.g (M.xa.isK (by simp [Xc.all]))) (dav_cons (dv_isX G (de_peek 0) M.m_isinstance M.x_BadWeather.g (M.xa.isK (by simp [Xc.all]))) dav_nil)))).x)
    (dss_cons (ds_asg 1 G (dn_add (de_peek 1) (dn_lst (dav_cons (dv_isX G (de_peek 0) M.m_isinstance M.x_BadMarks.g (M.xa.isK (by simp [Xc.all]))) (dav_cons (dv_isX G (de_peek 0) M.m_isinstance M.x_BadNumber.g (M.xa.isK (by simp [Xc.all]))) (dav_cons (dv_isX G (de_peek 0) M.m_isinstance M.x_BadText.g (M.xa.isK (by simp [Xc.all]))) dav_nil)))).v.q).x)
    (dss_cons (ds_app 1 G (dv_isX G (de_peek 0) M.m_isinstance M.x_NotFound.g (M.xa.isK (by simp [Xc.all]))))
    (dss_cons (ds_if (dw_or (dt_cmp (op_neD' G.hu G.fit) (dv_meth G PySem.F.slot_list_count PySem.F.type_list_count (mt_countM G.fit) mo_countT (de_peek 1) (daq_cons dv_bl.q daq_nil)).q dv_int.q) (dw_or (dt_not (dt_val (dv_isX G (de_peek 0) M.m_isinstance M.x_HeatError.g M.xa.isH).q)) (dw_or1 (dt_not (dt_val (dv_isXB G (de_peek 0) M.m_isinstance M.m_ValueError boot_ValueError' M.xa.isV).q))))).t (dss_one (ds_ret dv_str)) dss_nil)
    (dss_one (ds_ret (dv_ix G (dn_lst (dav_cons dv_str (dav_cons dv_str (dav_cons dv_str (dav_cons dv_str (dav_cons dv_str (dav_cons dv_str (dav_cons dv_str dav_nil)))))))).v.q (dv_meth G PySem.F.slot_list_index PySem.F.type_list_index (mt_indexM G.hu65 G.fit) mo_index (de_peek 1) (daq_cons dv_bl.q daq_nil)).q)))))))) (sem__law_error x M.xa.nd)
theorem fd__law_parsed {f : Addr} {fd : FuncData} (M : Mf K w mg x ds) (F : Fun K "_law_parsed" "_law_parsed" s__law_parsed f fd) (hm : mg "_law_parsed" = some (.ref f)) (F_parse_marks : FnD P w K mg base 5 "parse_marks" 1 (sp_parse_marks x)) (F__law_error : FnD P w K mg base 1 "_law_error" 1 (sp__law_error x)) : FnD P w K mg base 6 "_law_parsed" 1 (sp__law_parsed x) :=
  fn_D (k := 5) F sc__law_parsed (mo__law_parsed x) rfl hm (F.binds (ps := ["text"]) fun _ _ _ _ _ _ us hl => match us, hl with | [_], _ => rfl) (fun cdv A outer s H E C W G tk nob => (dss_cons (ds_asg 1 G dv_none.x)
    (dss_cons (ds_asg 2 G dv_none.x)
    (dss_cons (ds_try 2 3 G (by decide) M.xa.he M.x_HeatError.g (dss_one (ds_asg 1 G (dv_call G F_parse_marks (dav_cons (dv_var 0) dav_nil)).x)) (fun pins xe WT GT tkT => (dss_one (ds_asg 1 GT (dv_call GT F_parse_marks (dav_cons (dv_var 0) dav_nil)).x))) (hsu := fun a oe pins => ps_set (i := 2) G.nd rfl (.inl rfl) (pe_var (i := 3) rfl (.inl rfl) (by decide) (by decide))))
    (dss_one (ds_ret (dv_if (dt_cmp (op_isD G.fit) (de_peek 2) dv_none.q) (dv_var 1) (dv_call G F__law_error (dav_cons (dv_var 2) dav_nil))))))))) (sem__law_parsed x)
theorem fd__law_written {f : Addr} {fd : FuncData} (M : Mf K w mg x ds) (F : Fun K "_law_written" "_law_written" s__law_written f fd) (hm : mg "_law_written" = some (.ref f)) (F_format_marks : FnD P w K mg base 5 "format_marks" 1 (sp_format_marks x)) (F__law_error : FnD P w K mg base 1 "_law_error" 1 (sp__law_error x)) : FnD P w K mg base 6 "_law_written" 1 (sp__law_written x) :=
  fn_D (k := 5) F sc__law_written (mo__law_written x) rfl hm (F.binds (ps := ["marks"]) fun _ _ _ _ _ _ us hl => match us, hl with | [_], _ => rfl) (fun cdv A outer s H E C W G tk nob => (dss_cons (ds_asg 1 G dv_none.x)
    (dss_cons (ds_asg 2 G dv_none.x)
    (dss_cons (ds_try 2 3 G (by decide) M.xa.he M.x_HeatError.g (dss_one (ds_asg 1 G (dv_call G F_format_marks (dav_cons (dv_var 0) dav_nil)).x)) (fun pins xe WT GT tkT => (dss_one (ds_asg 1 GT (dv_call GT F_format_marks (dav_cons (dv_var 0) dav_nil)).x))) (hsu := fun a oe pins => ps_set (i := 2) G.nd rfl (.inl rfl) (pe_var (i := 3) rfl (.inl rfl) (by decide) (by decide))))
    (dss_one (ds_ret (dv_if (dt_cmp (op_isD G.fit) (de_peek 2) dv_none.q) (dv_var 1) (dv_call G F__law_error (dav_cons (dv_var 2) dav_nil))))))))) (sem__law_written x)
theorem fd__law_rejected {f : Addr} {fd : FuncData} (M : Mf K w mg x ds) (F : Fun K "_law_rejected" "_law_rejected" s__law_rejected f fd) (hm : mg "_law_rejected" = some (.ref f)) (F__law_parsed : FnD P w K mg base 6 "_law_parsed" 1 (sp__law_parsed x)) (F__law_written : FnD P w K mg base 6 "_law_written" 1 (sp__law_written x)) : FnD P w K mg base 7 "_law_rejected" 0 (sp__law_rejected x) :=
  fn_D (k := 6) F sc__law_rejected (mo__law_rejected x) rfl hm (F.binds (ps := []) fun _ _ _ _ _ _ us hl => match us, hl with | [], _ => rfl) (fun cdv A outer s H E C W G tk nob => (dss_cons (ds_asg 0 G (dn_lst (dav_cons dv_none (dav_cons dv_int (dav_cons dv_str (dav_cons dv_str (dav_cons dv_str (dav_cons dv_str (dav_cons dv_str (dav_cons dv_str (dav_cons dv_str (dav_cons dv_str (dav_cons dv_str (dav_cons dv_str (dav_cons dv_str (dav_cons dv_str (dav_cons dv_str (dav_cons dv_str (dav_cons dv_str (dav_cons dv_str (dav_cons dv_str (dav_cons (dn_lst (dav_cons dv_str dav_nil)).v (dav_cons dv_str (dav_cons dv_str (dav_cons dv_str (dav_cons dv_str (dav_cons dv_str dav_nil)))))))))))))))))))))))))).v.x)
    (dss_cons (ds_asg 0 G (dv_op (op_addD G.fit) (de_peek 0) (dn_lst (dav_cons (dv_methS G PySem.F.slot_str_join PySem.F.type_str_join (mt_joinD G.fit) mo_join dv_str.q (daq_cons (dv_op (op_mulT G.fit) (dn_lst (dav_cons dv_str dav_nil)).v.q dv_int.q).q daq_nil)) (dav_cons (dv_methS G PySem.F.slot_str_join PySem.F.type_str_join (mt_joinD G.fit) mo_join dv_str.q (daq_cons (dv_op (op_mulT G.fit) (dn_lst (dav_cons dv_str dav_nil)).v.q dv_int.q).q daq_nil)) (dav_cons (dv_op (op_addD G.fit) dv_str.q (dv_op (op_mulT G.fit) dv_str.q dv_int.q).q) dav_nil)))).v.q).x)
    (dss_cons (ds_if (dw_or (dt_cmp (op_neD' G.hu G.fit) (dn_comp [("bad", 2)] G (di_seq G (dv_var 0)) (blkOk_by (N := ["odd", "bad_ones", "bad"]) (sc := defScope s__law_rejected) (by decide +kernel)) (fun _ _ _ _ _ G1 => (dg_name 2 G1.nd)) (fun _ _ _ _ _ _ => dts_nil) (fun _ _ _ _ _ G1 => (dv_call G1 F__law_parsed (dav_cons (dv_var 2) dav_nil)))).v.q (dv_op (op_mulT G.fit) (dn_lst (dav_cons dv_str dav_nil)).v.q dv_int.q).q) (dw_or (dt_cmp (op_neD' G.hu G.fit) (dv_call G F__law_parsed (dav_cons dv_str dav_nil)).q (dn_lst dav_nil).v.q) (dw_or1 (dt_cmp (op_neD' G.hu G.fit) (dv_callB (b_len G.fit) (daq_cons (dv_call G F__law_parsed (dav_cons (dv_methS G PySem.F.slot_str_join PySem.F.type_str_join (mt_joinD G.fit) mo_join dv_str.q (daq_cons (dv_op (op_mulT G.fit) (dn_lst (dav_cons dv_str dav_nil)).v.q dv_int.q).q daq_nil)) dav_nil)).q daq_nil) M.m_len boot_len').q dv_int.q)))).t (dss_one (ds_ret dv_bl)) dss_nil)
    (dss_cons (ds_asg 1 G (dn_lst (dav_cons dv_none (dav_cons dv_int (dav_cons dv_str (dav_cons (dv_tup (dav_cons dv_int (dav_cons dv_int dav_nil))) (dav_cons (dn_lst (dav_cons dv_int dav_nil)).v (dav_cons (dn_lst (dav_cons (dv_neg dv_int.q) dav_nil)).v (dav_cons (dn_lst (dav_cons dv_bl dav_nil)).v (dav_cons (dn_lst (dav_cons dv_none dav_nil)).v (dav_cons (dn_lst (dav_cons dv_str dav_nil)).v (dav_cons (dn_lst (dav_cons (dv_tup (dav_cons dv_int dav_nil)) dav_nil)).v (dav_cons (dn_lst (dav_cons (dv_tup (dav_cons dv_int (dav_cons dv_int (dav_cons dv_int dav_nil)))) dav_nil)).v (dav_cons (dn_lst (dav_cons (dv_tup (dav_cons dv_int (dav_cons dv_int dav_nil))) dav_nil)).v (dav_cons (dn_lst (dav_cons (dv_tup (dav_cons dv_int (dav_cons dv_int dav_nil))) dav_nil)).v (dav_cons (dn_lst (dav_cons (dv_tup (dav_cons dv_int (dav_cons dv_bl dav_nil))) dav_nil)).v (dav_cons (dn_lst (dav_cons (dn_lst (dav_cons dv_int (dav_cons dv_int dav_nil))).v dav_nil)).v (dav_cons (dn_lst (dav_cons dv_int (dav_cons (dv_tup (dav_cons dv_int (dav_cons dv_int dav_nil))) dav_nil))).v (dav_cons (dn_lst (dav_cons (dv_tup (dav_cons dv_int (dav_cons dv_int dav_nil))) (dav_cons dv_int dav_nil))).v (dav_cons (dv_op (op_mulT G.fit) (dn_lst (dav_cons dv_int dav_nil)).v.q dv_int.q) (dav_cons (dv_op (op_mulT G.fit) (dn_lst (dav_cons (dv_tup (dav_cons dv_int (dav_cons dv_int dav_nil))) dav_nil)).v.q dv_int.q) dav_nil)))))))))))))))))))).v.x)
    (dss_cons (ds_if (dt_cmp (op_neD' G.hu G.fit) (dn_comp [("bad", 2)] G (di_seq G (dv_op (op_addD G.fit) (de_peek 1) (dn_lst (dav_cons (dn_lst (dav_cons dv_int (dav_cons dv_int (dav_cons dv_int (dav_cons dv_int (dav_cons dv_int dav_nil)))))).v (dav_cons (dv_op (op_addD G.fit) (dv_op (op_mulT G.fit) (dn_lst (dav_cons (dv_tup (dav_cons dv_int (dav_cons dv_int dav_nil))) dav_nil)).v.q dv_int.q).q (dn_lst (dav_cons (dv_tup (dav_cons dv_int (dav_cons dv_int dav_nil))) dav_nil)).v.q) dav_nil))).v.q)) (blkOk_by (N := ["odd", "bad_ones", "bad"]) (sc := defScope s__law_rejected) (by decide +kernel)) (fun _ _ _ _ _ G1 => (dg_name 2 G1.nd)) (fun _ _ _ _ _ _ => dts_nil) (fun _ _ _ _ _ G1 => (dv_call G1 F__law_written (dav_cons (dv_var 2) dav_nil)))).v.q (dv_op (op_mulT G.fit) (dn_lst (dav_cons dv_str dav_nil)).v.q dv_int.q).q) (dss_one (ds_ret dv_bl)) dss_nil)
    (dss_one (ds_ret (dv_and (dv_cmp (op_eqD' G.hu G.fit) (dv_call G F__law_written (dav_cons (dn_lst dav_nil).v dav_nil)).q dv_str.q).q (dv_and (dv_cmp (op_eqD' G.hu G.fit) (dv_call G F__law_written (dav_cons (dv_op (op_mulT G.fit) (dn_lst (dav_cons dv_int dav_nil)).v.q dv_int.q) dav_nil)).q (dv_methS G PySem.F.slot_str_join PySem.F.type_str_join (mt_joinD G.fit) mo_join dv_str.q (daq_cons (dv_op (op_mulT G.fit) (dn_lst (dav_cons dv_str dav_nil)).v.q dv_int.q).q daq_nil)).q).q (dv_one (dv_cmp (op_eqD' G.hu G.fit) (dv_call G F__law_parsed (dav_cons dv_str dav_nil)).q (dn_lst (dav_cons (dv_tup (dav_cons dv_int (dav_cons dv_int dav_nil))) (dav_cons (dv_tup (dav_cons dv_int (dav_cons dv_int dav_nil))) dav_nil))).v.q)))))))))))) (sem__law_rejected x M.xa.nd)
theorem fd__law_room {f : Addr} {fd : FuncData} (M : Mf K w mg x ds) (F : Fun K "_law_room" "_law_room" s__law_room f fd) (hm : mg "_law_room" = some (.ref f)) (F__law_draw : FnT P w K mg base 1 "_law_draw" 1 sp__law_draw) : FnT P w K mg base 2 "_law_room" 0 sp__law_room :=
  fn_T (k := 1) F sc__law_room (mo__law_room) rfl rfl hm (F.binds (ps := ["draws"]) fun _ _ _ _ _ _ us hl => match us, hl with | [_], _ => rfl) (fun cdv A outer s H E C W G tk nob => (dss_cons (ds_asg 1 G (dv_op (op_addD G.fit) dv_int.q (dv_callT 0 G F__law_draw (dav_cons dv_int dav_nil)).q).x)
    (dss_one (ds_ret (dv_tup (dav_cons (dv_var 1) (dav_cons (dv_callT 0 G F__law_draw (dav_cons (dv_op (op_addD G.fit) (de_peek 1) dv_int.q) dav_nil)) (dav_cons (dv_op (op_addD G.fit) dv_int.q (dv_callT 0 G F__law_draw (dav_cons dv_int dav_nil)).q) dav_nil)))))))) (sem__law_room)
theorem fd__law_pick {f : Addr} {fd : FuncData} (M : Mf K w mg x ds) (F : Fun K "_law_pick" "_law_pick" s__law_pick f fd) (hm : mg "_law_pick" = some (.ref f)) (F__law_draw : FnT P w K mg base 1 "_law_draw" 1 sp__law_draw) : FnT P w K mg base 2 "_law_pick" 1 sp__law_pick :=
  fn_T (k := 1) F sc__law_pick (mo__law_pick) rfl rfl hm (F.binds (ps := ["draws", "choices"]) fun _ _ _ _ _ _ us hl => match us, hl with | [_, _], _ => rfl) (fun cdv A outer s H E C W G tk nob => (dss_one (ds_ret (dv_ix G (de_peek 1) (dv_callT 0 G F__law_draw (dav_cons (dv_callB (b_len G.fit) (daq_cons (de_peek 1) daq_nil) M.m_len boot_len') dav_nil)).q)))) (sem__law_pick)
theorem fd__law_regulator {f : Addr} {fd : FuncData} (M : Mf K w mg x ds) (F : Fun K "_law_regulator" "_law_regulator" s__law_regulator f fd) (hm : mg "_law_regulator" = some (.ref f)) (F__law_draw : FnT P w K mg base 1 "_law_draw" 1 sp__law_draw) (F__law_pick : FnT P w K mg base 2 "_law_pick" 1 sp__law_pick) : FnT P w K mg base 3 "_law_regulator" 1 sp__law_regulator :=
  fn_T (k := 2) F sc__law_regulator (mo__law_regulator) rfl rfl hm (F.binds (ps := ["draws", "room"]) fun _ _ _ _ _ _ us hl => match us, hl with | [_, _], _ => rfl) (fun cdv A outer s H E C W G tk nob => (dss_cons (ds_asg 2 G (dv_callT 0 G F__law_draw (dav_cons (dv_ix G (de_peek 1) dv_int.q) dav_nil)).x)
    (dss_cons (ds_asg 3 G (dv_op (op_addD G.fit) dv_int.q (dv_callT 0 G F__law_draw (dav_cons (dv_callB (b_min G) (daq_cons (dv_op (op_subD G.fit) (dv_ix G (de_peek 1) dv_int.q).q (de_peek 2)).q (daq_cons (dv_callT 0 G F__law_pick (dav_cons (dn_lst (dav_cons dv_int (dav_cons dv_int (dav_cons dv_int dav_nil)))).v dav_nil)).q daq_nil)) M.m_min boot_min') dav_nil)).q).x)
    (dss_cons (ds_asg 4 G (dv_callT 0 G F__law_pick (dav_cons (dn_lst (dav_cons dv_str (dav_cons dv_str (dav_cons dv_str (dav_cons dv_str (dav_cons dv_str dav_nil)))))).v dav_nil)).x)
    (dss_cons (ds_asg 5 G (dv_tup (dav_cons (dv_var 4) (dav_cons (dv_var 2) (dav_cons (dv_op (op_addD G.fit) (de_peek 2) (de_peek 3)) dav_nil)))).x)
    (dss_one (ds_ret (dv_if (dt_cmp (op_inD' G.hu65 G.fit) (de_peek 4) (dv_tup (dav_cons dv_str (dav_cons dv_str dav_nil))).q) (dv_op (op_addD G.fit) (de_peek 5) (dv_tup (dav_cons (dv_op (op_addD G.fit) dv_int.q (dv_callT 0 G F__law_draw (dav_cons dv_int dav_nil)).q) dav_nil)).q) (dv_var 5))))))))) (sem__law_regulator)
theorem fd__law_row {f : Addr} {fd : FuncData} (M : Mf K w mg x ds) (F : Fun K "_law_row" "_law_row" s__law_row f fd) (hm : mg "_law_row" = some (.ref f)) (F__law_draw : FnT P w K mg base 1 "_law_draw" 1 sp__law_draw) (F__law_pick : FnT P w K mg base 2 "_law_pick" 1 sp__law_pick) : FnT P w K mg base 3 "_law_row" 1 sp__law_row :=
  fn_T (k := 2) F sc__law_row (mo__law_row) rfl rfl hm (F.binds (ps := ["draws", "longest"]) fun _ _ _ _ _ _ us hl => match us, hl with | [_, _], _ => rfl) (fun cdv A outer s H E C W G tk nob => (dss_cons (ds_asg 2 G (dn_lst dav_nil).v.x)
    (dss_cons (ds_asg 3 G (dv_callT 0 G F__law_draw (dav_cons (dv_op (op_addD G.fit) (de_peek 1) dv_int.q) dav_nil)).x)
    (dss_cons (ds_while G (dt_cmp (op_ltD G.fit) (dv_callB (b_len G.fit) (daq_cons (de_peek 2) daq_nil) M.m_len boot_len').q (de_peek 3)) (dss_one (ds_asg 2 G (dv_op (op_addD G.fit) (de_peek 2) (dv_op (op_mulD G.fit) (dn_lst (dav_cons (dv_op (op_addD G.fit) dv_int.q (dv_callT 0 G F__law_draw (dav_cons dv_int dav_nil)).q) dav_nil)).v.q (dv_callT 0 G F__law_pick (dav_cons (dn_lst (dav_cons dv_int (dav_cons dv_int (dav_cons dv_int (dav_cons dv_int dav_nil))))).v dav_nil)).q).q).x)))
    (dss_one (ds_ret (dv_slice G.fit (de_peek 2) do_none (do_some (de_peek 3))))))))) (sem__law_row)
theorem fd__law_words {f : Addr} {fd : FuncData} (M : Mf K w mg x ds) (F : Fun K "_law_words" "_law_words" s__law_words f fd) (hm : mg "_law_words" = some (.ref f)) : FnD P w K mg base 1 "_law_words" 1 sp__law_words :=
  fn_D (k := 0) F sc__law_words (mo__law_words) rfl hm (F.binds (ps := ["marks"]) fun _ _ _ _ _ _ us hl => match us, hl with | [_], _ => rfl) (fun cdv A outer s H E C W G tk nob => (dss_one (ds_ret (dv_methS G PySem.F.slot_str_join PySem.F.type_str_join (mt_joinD G.fit) mo_join dv_str.q (daq_cons (dn_comp [("one", 1)] G (di_seq G (dv_var 0)) (blkOk_by (N := ["marks", "one"]) (sc := defScope s__law_words) (by decide +kernel)) (fun _ _ _ _ _ G1 => (dg_name 1 G1.nd)) (fun _ _ _ _ _ _ => dts_nil) (fun _ _ _ _ _ G1 => (dv_if (dt_val (dv_isi G1 (de_peek 1) M.m_isinstance M.m_tuple boot_tuple').q) (dv_op (op_addD G1.fit) (dv_ix G1 dv_str.q (dv_ix G1 (de_peek 1) dv_int.q).q).q (dv_callTy (b_str) (daq_cons (dv_ix G1 (de_peek 1) dv_int.q).q daq_nil) M.m_str boot_str').q) (dv_ix G1 dv_str.q (de_peek 1))))).v.q daq_nil))))) (sem__law_words)
theorem fd_law {f : Addr} {fd : FuncData} (M : Mf K w mg x ds) (F : Fun K "law" "law" s_law f fd) {fS : Addr} {fdS : FuncData} (FS : FnOk P w K mg base (L2.CX P w) 1 fS fdS ["script"] (spStart K)) (hS : mg "_law_start" = some (.ref fS)) (kS : PySem.W.keepIn K (.ref fS) = true) (bS : Binds K fdS ["script"] []) (F_marks_of : FnD P w K mg base 5 "marks_of" 4 (sp_marks_of x)) (F_format_marks : FnD P w K mg base 5 "format_marks" 1 (sp_format_marks x)) (F__law_rejected : FnD P w K mg base 7 "_law_rejected" 0 (sp__law_rejected x)) (F__law_room : FnT P w K mg base 2 "_law_room" 0 sp__law_room) (F__law_draw : FnT P w K mg base 1 "_law_draw" 1 sp__law_draw) (F__law_regulator : FnT P w K mg base 3 "_law_regulator" 1 sp__law_regulator) (F__law_row : FnT P w K mg base 3 "_law_row" 1 sp__law_row) (F__law_parsed : FnD P w K mg base 6 "_law_parsed" 1 (sp__law_parsed x)) (F__law_words : FnD P w K mg base 1 "_law_words" 1 sp__law_words) (F__law_pick : FnT P w K mg base 2 "_law_pick" 1 sp__law_pick) (F__law_written : FnD P w K mg base 6 "_law_written" 1 (sp__law_written x)) (hs : t_law x endLaw (startLaw 14)) : FnOk P w K mg base (L2.CX P w) 8 f fd ["script"] (spLaw K) :=
  fn_law (k := 7) F sc_law rfl (fun cdv A outer s H E hr => ⟨_, _, rfl, ps_set (i := 1) sc_law.nd rfl (by first | exact .inl rfl | exact .inr rfl) (pe_callS FS (hr.mono (by decide)) rfl hS kS bS pass_no (pa_cons (pv 0) pa_nil)), fun C W G tk nob => (dss_cons (ds_par2 2 3 G (dax_cons (dv_callT 1 G F__law_room dav_nil).x (dax_cons (dv_callT 1 G F__law_draw (dav_cons dv_int dav_nil)).x dax_nil)))
    (dss_cons (ds_asg 4 G (dv_call G F_marks_of (dav_cons (dv_var 2) (dav_cons (dv_callT 1 G F__law_regulator (dav_cons (dv_var 2) dav_nil)) (dav_cons (dv_callT 1 G F__law_row (dav_cons dv_int dav_nil)) (dav_cons (dv_var 3) dav_nil))))).x)
    (dss_cons (ds_asg 5 G (dv_call G F_format_marks (dav_cons (dv_var 4) dav_nil)).x)
    (dss_cons (ds_if (dw_or (dt_cmp (op_neD' G.hu G.fit) (de_peek 5) (dv_call G F__law_words (dav_cons (dv_var 4) dav_nil)).q) (dw_or1 (dt_cmp (op_neD' G.hu G.fit) (dv_call G F__law_parsed (dav_cons (dv_var 5) dav_nil)).q (de_peek 4)))).t (dss_one (ds_ret dv_bl)) dss_nil)
    (dss_cons (ds_asg 6 G (dv_if (dt_cmp (op_neD' G.hu G.fit) (de_peek 5) dv_str.q) (dv_methS G PySem.F.slot_str_split PySem.F.type_str_split (mt_splitD G.fit) mo_split (de_peek 5) (daq_cons dv_str.q daq_nil)) (dn_lst dav_nil).v).x)
    (dss_cons (ds_asg 7 G (dn_lst (dav_cons dv_str (dav_cons dv_str (dav_cons dv_str (dav_cons dv_str (dav_cons dv_str (dav_cons dv_str (dav_cons dv_str (dav_cons dv_str (dav_cons dv_str (dav_cons dv_str dav_nil))))))))))).v.x)
    (dss_cons (ds_for G (di_range1 (daq_cons dv_int.q daq_nil) M.m_range) (dg_name 8 G.nd) (dss_cons (ds_par2 9 10 G (dax_cons (dv_callT 1 G F__law_draw (dav_cons (dv_op (op_addD G.fit) (dv_callB (b_len G.fit) (daq_cons (de_peek 6) daq_nil) M.m_len boot_len').q dv_int.q) dav_nil)).x (dax_cons (dv_callT 1 G F__law_pick (dav_cons (dv_var 7) dav_nil)).x dax_nil)))
    (dss_cons (ds_asg 11 G (dn_lst (dav_cons (dv_op (op_addD G.fit) (dv_op (op_addD G.fit) (dv_sliceT G.fit (de_peek 6) do_none (do_some (de_peek 9))).q (dn_lst (dav_cons (dv_var 10) dav_nil)).v.q).q (dv_sliceT G.fit (de_peek 6) (do_some (dv_op (op_addD G.fit) (de_peek 9) dv_int.q).q) do_none).q) (dav_cons (dv_op (op_addD G.fit) (dv_op (op_addD G.fit) (dv_sliceT G.fit (de_peek 6) do_none (do_some (de_peek 9))).q (dn_lst (dav_cons (dv_var 10) dav_nil)).v.q).q (dv_sliceT G.fit (de_peek 6) (do_some (de_peek 9)) do_none).q) (dav_cons (dv_op (op_addD G.fit) (dv_sliceT G.fit (de_peek 6) do_none (do_some (de_peek 9))).q (dv_sliceT G.fit (de_peek 6) (do_some (dv_op (op_addD G.fit) (de_peek 9) dv_int.q).q) do_none).q) dav_nil)))).v.x)
    (dss_cons (ds_asg 12 G (dv_methS G PySem.F.slot_str_join PySem.F.type_str_join (mt_joinD G.fit) mo_join dv_str.q (daq_cons (dv_callT 1 G F__law_pick (dav_cons (dv_var 11) dav_nil)).q daq_nil)).x)
    (dss_cons (ds_asg 13 G (dv_call G F__law_parsed (dav_cons (dv_var 12) dav_nil)).x)
    (dss_one (ds_if (dw_and (dt_cmp (op_neD' G.hu G.fit) (de_peek 13) dv_str.q) (dw_and1 (dw_or (dt_cmp (op_neD' G.hu G.fit) (dv_call G F__law_words (dav_cons (dv_var 13) dav_nil)).q (de_peek 12)) (dw_or1 (dt_cmp (op_neD' G.hu G.fit) (dv_call G F__law_written (dav_cons (dv_var 13) dav_nil)).q (de_peek 12)))).t)).t (dss_one (ds_ret dv_bl)) dss_nil)))))))
    (dss_one (ds_ret (dv_call0 G F__law_rejected))))))))))⟩) hs
end
/-! ### what the top has written -/
theorem all_mk {l : PySem.W.OpenLaw} {w : World} {K : PySem.W.Frag} {h : Heap} {mg : Str → Option Value} {fa : Addr} (X : K.In h) (G : h.Ns mainGlobals mg) (hfa : mg "law" = some (.ref fa))
    {f1 : Addr} {od1 an1 : Option Addr} {sl1 : Array (Option Value)} {oc1 kV1 dc1 pm1 cd1 ct1 : Value}
    {f2 : Addr} {od2 an2 : Option Addr} {sl2 : Array (Option Value)} {oc2 kV2 dc2 pm2 cd2 ct2 : Value}
    {f3 : Addr} {od3 an3 : Option Addr} {sl3 : Array (Option Value)} {oc3 kV3 dc3 pm3 cd3 ct3 : Value}
    {f4 : Addr} {od4 an4 : Option Addr} {sl4 : Array (Option Value)} {oc4 kV4 dc4 pm4 cd4 ct4 : Value}
    {f5 : Addr} {od5 an5 : Option Addr} {sl5 : Array (Option Value)} {oc5 kV5 dc5 pm5 cd5 ct5 : Value}
    {f6 : Addr} {od6 an6 : Option Addr} {sl6 : Array (Option Value)} {oc6 kV6 dc6 pm6 cd6 ct6 : Value}
    {f7 : Addr} {od7 an7 : Option Addr} {sl7 : Array (Option Value)} {oc7 kV7 dc7 pm7 cd7 ct7 : Value}
    {f8 : Addr} {od8 an8 : Option Addr} {sl8 : Array (Option Value)} {oc8 kV8 dc8 pm8 cd8 ct8 : Value}
    {f9 : Addr} {od9 an9 : Option Addr} {sl9 : Array (Option Value)} {oc9 kV9 dc9 pm9 cd9 ct9 : Value}
    {f10 : Addr} {od10 an10 : Option Addr} {sl10 : Array (Option Value)} {oc10 kV10 dc10 pm10 cd10 ct10 : Value}
    {f11 : Addr} {od11 an11 : Option Addr} {sl11 : Array (Option Value)} {oc11 kV11 dc11 pm11 cd11 ct11 : Value}
    {f12 : Addr} {od12 an12 : Option Addr} {sl12 : Array (Option Value)} {oc12 kV12 dc12 pm12 cd12 ct12 : Value}
    {f13 : Addr} {od13 an13 : Option Addr} {sl13 : Array (Option Value)} {oc13 kV13 dc13 pm13 cd13 ct13 : Value}
    {f14 : Addr} {od14 an14 : Option Addr} {sl14 : Array (Option Value)} {oc14 kV14 dc14 pm14 cd14 ct14 : Value}
    {f15 : Addr} {od15 an15 : Option Addr} {sl15 : Array (Option Value)} {oc15 kV15 dc15 pm15 cd15 ct15 : Value}
    {f16 : Addr} {od16 an16 : Option Addr} {sl16 : Array (Option Value)} {oc16 kV16 dc16 pm16 cd16 ct16 : Value}
    {f17 : Addr} {od17 an17 : Option Addr} {sl17 : Array (Option Value)} {oc17 kV17 dc17 pm17 cd17 ct17 : Value}
    {f18 : Addr} {od18 an18 : Option Addr} {sl18 : Array (Option Value)} {oc18 kV18 dc18 pm18 cd18 ct18 : Value}
    {f19 : Addr} {od19 an19 : Option Addr} {sl19 : Array (Option Value)} {oc19 kV19 dc19 pm19 cd19 ct19 : Value}
    {f20 : Addr} {od20 an20 : Option Addr} {sl20 : Array (Option Value)} {oc20 kV20 dc20 pm20 cd20 ct20 : Value}
    {f21 : Addr} {od21 an21 : Option Addr} {sl21 : Array (Option Value)} {oc21 kV21 dc21 pm21 cd21 ct21 : Value}
    {f22 : Addr} {od22 an22 : Option Addr} {sl22 : Array (Option Value)} {oc22 kV22 dc22 pm22 cd22 ct22 : Value}
    {f23 : Addr} {od23 an23 : Option Addr} {sl23 : Array (Option Value)} {oc23 kV23 dc23 pm23 cd23 ct23 : Value}
    {f24 : Addr} {od24 an24 : Option Addr} {sl24 : Array (Option Value)} {oc24 kV24 dc24 pm24 cd24 ct24 : Value}
    {f25 : Addr} {od25 an25 : Option Addr} {sl25 : Array (Option Value)} {oc25 kV25 dc25 pm25 cd25 ct25 : Value}
    {f26 : Addr} {od26 an26 : Option Addr} {sl26 : Array (Option Value)} {oc26 kV26 dc26 pm26 cd26 ct26 : Value}
    {f27 : Addr} {od27 an27 : Option Addr} {sl27 : Array (Option Value)} {oc27 kV27 dc27 pm27 cd27 ct27 : Value}
    {f28 : Addr} {od28 an28 : Option Addr} {sl28 : Array (Option Value)} {oc28 kV28 dc28 pm28 cd28 ct28 : Value}
    {f29 : Addr} {od29 an29 : Option Addr} {sl29 : Array (Option Value)} {oc29 kV29 dc29 pm29 cd29 ct29 : Value}
    {f30 : Addr} {od30 an30 : Option Addr} {sl30 : Array (Option Value)} {oc30 kV30 dc30 pm30 cd30 ct30 : Value}
    {f31 : Addr} {od31 an31 : Option Addr} {sl31 : Array (Option Value)} {oc31 kV31 dc31 pm31 cd31 ct31 : Value}
    {f32 : Addr} {od32 an32 : Option Addr} {sl32 : Array (Option Value)} {oc32 kV32 dc32 pm32 cd32 ct32 : Value}
    {f33 : Addr} {od33 an33 : Option Addr} {sl33 : Array (Option Value)} {oc33 kV33 dc33 pm33 cd33 ct33 : Value}
    {f34 : Addr} {od34 an34 : Option Addr} {sl34 : Array (Option Value)} {oc34 kV34 dc34 pm34 cd34 ct34 : Value}
    {f35 : Addr} {od35 an35 : Option Addr} {sl35 : Array (Option Value)} {oc35 kV35 dc35 pm35 cd35 ct35 : Value}
    {f36 : Addr} {od36 an36 : Option Addr} {sl36 : Array (Option Value)} {oc36 kV36 dc36 pm36 cd36 ct36 : Value}
    {f37 : Addr} {od37 an37 : Option Addr} {sl37 : Array (Option Value)} {oc37 kV37 dc37 pm37 cd37 ct37 : Value}
    {f38 : Addr} {od38 an38 : Option Addr} {sl38 : Array (Option Value)} {oc38 kV38 dc38 pm38 cd38 ct38 : Value}
    {e_BadRoom : Addr}
    {e_BadRegulator : Addr}
    {e_BadWeather : Addr}
    {e_BadNumber : Addr}
    {e_BadMarks : Addr}
    {e_BadText : Addr}
    {e_NotFound : Addr}
    {e_HeatError : Addr}
    {xcd_BadRoom : ClassData}
    {xcd_BadRegulator : ClassData}
    {xcd_BadWeather : ClassData}
    {xcd_BadMarks : ClassData}
    {xcd_BadNumber : ClassData}
    {xcd_BadText : ClassData}
    {xcd_NotFound : ClassData}
    {xcd_HeatError : ClassData}
    {d_SIZES : Addr} {de_SIZES : Array DictEntry} {dn_SIZES : Nat}
    {iu_MOST_ROW : Tok}
    {iu_MOST_MARKS : Tok}
    {iu_WIDEST : Tok}
    {t_HEATS : Addr} {ti_HEATS : Array Value} {tn_HEATS : Nat} {ts_HEATS : Array (Option Value)}
    (a1 : PySem.W.nsIn K mainGlobals "_law_start" = some (some (.ref f1))) (l1 : K.lookup f1 = some ⟨oc1, od1, .func (PySem.W.fnOf "_law_start" "_law_start" (defArgs s__law_start) (defBody s__law_start) (defScope s__law_start) .none kV1 dc1 pm1 an1 cd1 ct1), sl1⟩) (c1 : PySem.W.codeIn K cd1 "_law_start" = true) (k1 : PySem.W.keepIn K (.ref f1) = true)
    (a2 : PySem.W.nsIn K mainGlobals "is_int" = some (some (.ref f2))) (l2 : K.lookup f2 = some ⟨oc2, od2, .func (PySem.W.fnOf "is_int" "is_int" (defArgs s_is_int) (defBody s_is_int) (defScope s_is_int) .none kV2 dc2 pm2 an2 cd2 ct2), sl2⟩) (c2 : PySem.W.codeIn K cd2 "is_int" = true) (k2 : PySem.W.keepIn K (.ref f2) = true)
    (a3 : PySem.W.nsIn K mainGlobals "is_room" = some (some (.ref f3))) (l3 : K.lookup f3 = some ⟨oc3, od3, .func (PySem.W.fnOf "is_room" "is_room" (defArgs s_is_room) (defBody s_is_room) (defScope s_is_room) .none kV3 dc3 pm3 an3 cd3 ct3), sl3⟩) (c3 : PySem.W.codeIn K cd3 "is_room" = true) (k3 : PySem.W.keepIn K (.ref f3) = true)
    (a4 : PySem.W.nsIn K mainGlobals "check_room" = some (some (.ref f4))) (l4 : K.lookup f4 = some ⟨oc4, od4, .func (PySem.W.fnOf "check_room" "check_room" (defArgs s_check_room) (defBody s_check_room) (defScope s_check_room) .none kV4 dc4 pm4 an4 cd4 ct4), sl4⟩) (c4 : PySem.W.codeIn K cd4 "check_room" = true) (k4 : PySem.W.keepIn K (.ref f4) = true)
    (a5 : PySem.W.nsIn K mainGlobals "is_for" = some (some (.ref f5))) (l5 : K.lookup f5 = some ⟨oc5, od5, .func (PySem.W.fnOf "is_for" "is_for" (defArgs s_is_for) (defBody s_is_for) (defScope s_is_for) .none kV5 dc5 pm5 an5 cd5 ct5), sl5⟩) (c5 : PySem.W.codeIn K cd5 "is_for" = true) (k5 : PySem.W.keepIn K (.ref f5) = true)
    (a6 : PySem.W.nsIn K mainGlobals "check_regulator" = some (some (.ref f6))) (l6 : K.lookup f6 = some ⟨oc6, od6, .func (PySem.W.fnOf "check_regulator" "check_regulator" (defArgs s_check_regulator) (defBody s_check_regulator) (defScope s_check_regulator) .none kV6 dc6 pm6 an6 cd6 ct6), sl6⟩) (c6 : PySem.W.codeIn K cd6 "check_regulator" = true) (k6 : PySem.W.keepIn K (.ref f6) = true)
    (a7 : PySem.W.nsIn K mainGlobals "is_weather" = some (some (.ref f7))) (l7 : K.lookup f7 = some ⟨oc7, od7, .func (PySem.W.fnOf "is_weather" "is_weather" (defArgs s_is_weather) (defBody s_is_weather) (defScope s_is_weather) .none kV7 dc7 pm7 an7 cd7 ct7), sl7⟩) (c7 : PySem.W.codeIn K cd7 "is_weather" = true) (k7 : PySem.W.keepIn K (.ref f7) = true)
    (a8 : PySem.W.nsIn K mainGlobals "is_row" = some (some (.ref f8))) (l8 : K.lookup f8 = some ⟨oc8, od8, .func (PySem.W.fnOf "is_row" "is_row" (defArgs s_is_row) (defBody s_is_row) (defScope s_is_row) .none kV8 dc8 pm8 an8 cd8 ct8), sl8⟩) (c8 : PySem.W.codeIn K cd8 "is_row" = true) (k8 : PySem.W.keepIn K (.ref f8) = true)
    (a9 : PySem.W.nsIn K mainGlobals "check_row" = some (some (.ref f9))) (l9 : K.lookup f9 = some ⟨oc9, od9, .func (PySem.W.fnOf "check_row" "check_row" (defArgs s_check_row) (defBody s_check_row) (defScope s_check_row) .none kV9 dc9 pm9 an9 cd9 ct9), sl9⟩) (c9 : PySem.W.codeIn K cd9 "check_row" = true) (k9 : PySem.W.keepIn K (.ref f9) = true)
    (a10 : PySem.W.nsIn K mainGlobals "check_number" = some (some (.ref f10))) (l10 : K.lookup f10 = some ⟨oc10, od10, .func (PySem.W.fnOf "check_number" "check_number" (defArgs s_check_number) (defBody s_check_number) (defScope s_check_number) .none kV10 dc10 pm10 an10 cd10 ct10), sl10⟩) (c10 : PySem.W.codeIn K cd10 "check_number" = true) (k10 : PySem.W.keepIn K (.ref f10) = true)
    (a11 : PySem.W.nsIn K mainGlobals "check_sight" = some (some (.ref f11))) (l11 : K.lookup f11 = some ⟨oc11, od11, .func (PySem.W.fnOf "check_sight" "check_sight" (defArgs s_check_sight) (defBody s_check_sight) (defScope s_check_sight) .none kV11 dc11 pm11 an11 cd11 ct11), sl11⟩) (c11 : PySem.W.codeIn K cd11 "check_sight" = true) (k11 : PySem.W.keepIn K (.ref f11) = true)
    (a12 : PySem.W.nsIn K mainGlobals "mark_of" = some (some (.ref f12))) (l12 : K.lookup f12 = some ⟨oc12, od12, .func (PySem.W.fnOf "mark_of" "mark_of" (defArgs s_mark_of) (defBody s_mark_of) (defScope s_mark_of) .none kV12 dc12 pm12 an12 cd12 ct12), sl12⟩) (c12 : PySem.W.codeIn K cd12 "mark_of" = true) (k12 : PySem.W.keepIn K (.ref f12) = true)
    (a13 : PySem.W.nsIn K mainGlobals "first_state" = some (some (.ref f13))) (l13 : K.lookup f13 = some ⟨oc13, od13, .func (PySem.W.fnOf "first_state" "first_state" (defArgs s_first_state) (defBody s_first_state) (defScope s_first_state) .none kV13 dc13 pm13 an13 cd13 ct13), sl13⟩) (c13 : PySem.W.codeIn K cd13 "first_state" = true) (k13 : PySem.W.keepIn K (.ref f13) = true)
    (a14 : PySem.W.nsIn K mainGlobals "warmed" = some (some (.ref f14))) (l14 : K.lookup f14 = some ⟨oc14, od14, .func (PySem.W.fnOf "warmed" "warmed" (defArgs s_warmed) (defBody s_warmed) (defScope s_warmed) .none kV14 dc14 pm14 an14 cd14 ct14), sl14⟩) (c14 : PySem.W.codeIn K cd14 "warmed" = true) (k14 : PySem.W.keepIn K (.ref f14) = true)
    (a15 : PySem.W.nsIn K mainGlobals "decided" = some (some (.ref f15))) (l15 : K.lookup f15 = some ⟨oc15, od15, .func (PySem.W.fnOf "decided" "decided" (defArgs s_decided) (defBody s_decided) (defScope s_decided) .none kV15 dc15 pm15 an15 cd15 ct15), sl15⟩) (c15 : PySem.W.codeIn K cd15 "decided" = true) (k15 : PySem.W.keepIn K (.ref f15) = true)
    (a16 : PySem.W.nsIn K mainGlobals "set_switch" = some (some (.ref f16))) (l16 : K.lookup f16 = some ⟨oc16, od16, .func (PySem.W.fnOf "set_switch" "set_switch" (defArgs s_set_switch) (defBody s_set_switch) (defScope s_set_switch) .none kV16 dc16 pm16 an16 cd16 ct16), sl16⟩) (c16 : PySem.W.codeIn K cd16 "set_switch" = true) (k16 : PySem.W.keepIn K (.ref f16) = true)
    (a17 : PySem.W.nsIn K mainGlobals "step" = some (some (.ref f17))) (l17 : K.lookup f17 = some ⟨oc17, od17, .func (PySem.W.fnOf "step" "step" (defArgs s_step) (defBody s_step) (defScope s_step) .none kV17 dc17 pm17 an17 cd17 ct17), sl17⟩) (c17 : PySem.W.codeIn K cd17 "step" = true) (k17 : PySem.W.keepIn K (.ref f17) = true)
    (a18 : PySem.W.nsIn K mainGlobals "states_of" = some (some (.ref f18))) (l18 : K.lookup f18 = some ⟨oc18, od18, .func (PySem.W.fnOf "states_of" "states_of" (defArgs s_states_of) (defBody s_states_of) (defScope s_states_of) .none kV18 dc18 pm18 an18 cd18 ct18), sl18⟩) (c18 : PySem.W.codeIn K cd18 "states_of" = true) (k18 : PySem.W.keepIn K (.ref f18) = true)
    (a19 : PySem.W.nsIn K mainGlobals "marks_of" = some (some (.ref f19))) (l19 : K.lookup f19 = some ⟨oc19, od19, .func (PySem.W.fnOf "marks_of" "marks_of" (defArgs s_marks_of) (defBody s_marks_of) (defScope s_marks_of) .none kV19 dc19 pm19 an19 cd19 ct19), sl19⟩) (c19 : PySem.W.codeIn K cd19 "marks_of" = true) (k19 : PySem.W.keepIn K (.ref f19) = true)
    (a20 : PySem.W.nsIn K mainGlobals "is_mark" = some (some (.ref f20))) (l20 : K.lookup f20 = some ⟨oc20, od20, .func (PySem.W.fnOf "is_mark" "is_mark" (defArgs s_is_mark) (defBody s_is_mark) (defScope s_is_mark) .none kV20 dc20 pm20 an20 cd20 ct20), sl20⟩) (c20 : PySem.W.codeIn K cd20 "is_mark" = true) (k20 : PySem.W.keepIn K (.ref f20) = true)
    (a21 : PySem.W.nsIn K mainGlobals "is_mark_row" = some (some (.ref f21))) (l21 : K.lookup f21 = some ⟨oc21, od21, .func (PySem.W.fnOf "is_mark_row" "is_mark_row" (defArgs s_is_mark_row) (defBody s_is_mark_row) (defScope s_is_mark_row) .none kV21 dc21 pm21 an21 cd21 ct21), sl21⟩) (c21 : PySem.W.codeIn K cd21 "is_mark_row" = true) (k21 : PySem.W.keepIn K (.ref f21) = true)
    (a22 : PySem.W.nsIn K mainGlobals "are_marks" = some (some (.ref f22))) (l22 : K.lookup f22 = some ⟨oc22, od22, .func (PySem.W.fnOf "are_marks" "are_marks" (defArgs s_are_marks) (defBody s_are_marks) (defScope s_are_marks) .none kV22 dc22 pm22 an22 cd22 ct22), sl22⟩) (c22 : PySem.W.codeIn K cd22 "are_marks" = true) (k22 : PySem.W.keepIn K (.ref f22) = true)
    (a23 : PySem.W.nsIn K mainGlobals "mark_text" = some (some (.ref f23))) (l23 : K.lookup f23 = some ⟨oc23, od23, .func (PySem.W.fnOf "mark_text" "mark_text" (defArgs s_mark_text) (defBody s_mark_text) (defScope s_mark_text) .none kV23 dc23 pm23 an23 cd23 ct23), sl23⟩) (c23 : PySem.W.codeIn K cd23 "mark_text" = true) (k23 : PySem.W.keepIn K (.ref f23) = true)
    (a24 : PySem.W.nsIn K mainGlobals "format_marks" = some (some (.ref f24))) (l24 : K.lookup f24 = some ⟨oc24, od24, .func (PySem.W.fnOf "format_marks" "format_marks" (defArgs s_format_marks) (defBody s_format_marks) (defScope s_format_marks) .none kV24 dc24 pm24 an24 cd24 ct24), sl24⟩) (c24 : PySem.W.codeIn K cd24 "format_marks" = true) (k24 : PySem.W.keepIn K (.ref f24) = true)
    (a25 : PySem.W.nsIn K mainGlobals "check_text" = some (some (.ref f25))) (l25 : K.lookup f25 = some ⟨oc25, od25, .func (PySem.W.fnOf "check_text" "check_text" (defArgs s_check_text) (defBody s_check_text) (defScope s_check_text) .none kV25 dc25 pm25 an25 cd25 ct25), sl25⟩) (c25 : PySem.W.codeIn K cd25 "check_text" = true) (k25 : PySem.W.keepIn K (.ref f25) = true)
    (a26 : PySem.W.nsIn K mainGlobals "mark_in" = some (some (.ref f26))) (l26 : K.lookup f26 = some ⟨oc26, od26, .func (PySem.W.fnOf "mark_in" "mark_in" (defArgs s_mark_in) (defBody s_mark_in) (defScope s_mark_in) .none kV26 dc26 pm26 an26 cd26 ct26), sl26⟩) (c26 : PySem.W.codeIn K cd26 "mark_in" = true) (k26 : PySem.W.keepIn K (.ref f26) = true)
    (a27 : PySem.W.nsIn K mainGlobals "parse_marks" = some (some (.ref f27))) (l27 : K.lookup f27 = some ⟨oc27, od27, .func (PySem.W.fnOf "parse_marks" "parse_marks" (defArgs s_parse_marks) (defBody s_parse_marks) (defScope s_parse_marks) .none kV27 dc27 pm27 an27 cd27 ct27), sl27⟩) (c27 : PySem.W.codeIn K cd27 "parse_marks" = true) (k27 : PySem.W.keepIn K (.ref f27) = true)
    (a28 : PySem.W.nsIn K mainGlobals "_law_error" = some (some (.ref f28))) (l28 : K.lookup f28 = some ⟨oc28, od28, .func (PySem.W.fnOf "_law_error" "_law_error" (defArgs s__law_error) (defBody s__law_error) (defScope s__law_error) .none kV28 dc28 pm28 an28 cd28 ct28), sl28⟩) (c28 : PySem.W.codeIn K cd28 "_law_error" = true) (k28 : PySem.W.keepIn K (.ref f28) = true)
    (a29 : PySem.W.nsIn K mainGlobals "_law_parsed" = some (some (.ref f29))) (l29 : K.lookup f29 = some ⟨oc29, od29, .func (PySem.W.fnOf "_law_parsed" "_law_parsed" (defArgs s__law_parsed) (defBody s__law_parsed) (defScope s__law_parsed) .none kV29 dc29 pm29 an29 cd29 ct29), sl29⟩) (c29 : PySem.W.codeIn K cd29 "_law_parsed" = true) (k29 : PySem.W.keepIn K (.ref f29) = true)
    (a30 : PySem.W.nsIn K mainGlobals "_law_written" = some (some (.ref f30))) (l30 : K.lookup f30 = some ⟨oc30, od30, .func (PySem.W.fnOf "_law_written" "_law_written" (defArgs s__law_written) (defBody s__law_written) (defScope s__law_written) .none kV30 dc30 pm30 an30 cd30 ct30), sl30⟩) (c30 : PySem.W.codeIn K cd30 "_law_written" = true) (k30 : PySem.W.keepIn K (.ref f30) = true)
    (a31 : PySem.W.nsIn K mainGlobals "_law_rejected" = some (some (.ref f31))) (l31 : K.lookup f31 = some ⟨oc31, od31, .func (PySem.W.fnOf "_law_rejected" "_law_rejected" (defArgs s__law_rejected) (defBody s__law_rejected) (defScope s__law_rejected) .none kV31 dc31 pm31 an31 cd31 ct31), sl31⟩) (c31 : PySem.W.codeIn K cd31 "_law_rejected" = true) (k31 : PySem.W.keepIn K (.ref f31) = true)
    (a32 : PySem.W.nsIn K mainGlobals "_law_draw" = some (some (.ref f32))) (l32 : K.lookup f32 = some ⟨oc32, od32, .func (PySem.W.fnOf "_law_draw" "_law_draw" (defArgs s__law_draw) (defBody s__law_draw) (defScope s__law_draw) .none kV32 dc32 pm32 an32 cd32 ct32), sl32⟩) (c32 : PySem.W.codeIn K cd32 "_law_draw" = true) (k32 : PySem.W.keepIn K (.ref f32) = true)
    (a33 : PySem.W.nsIn K mainGlobals "_law_room" = some (some (.ref f33))) (l33 : K.lookup f33 = some ⟨oc33, od33, .func (PySem.W.fnOf "_law_room" "_law_room" (defArgs s__law_room) (defBody s__law_room) (defScope s__law_room) .none kV33 dc33 pm33 an33 cd33 ct33), sl33⟩) (c33 : PySem.W.codeIn K cd33 "_law_room" = true) (k33 : PySem.W.keepIn K (.ref f33) = true)
    (a34 : PySem.W.nsIn K mainGlobals "_law_pick" = some (some (.ref f34))) (l34 : K.lookup f34 = some ⟨oc34, od34, .func (PySem.W.fnOf "_law_pick" "_law_pick" (defArgs s__law_pick) (defBody s__law_pick) (defScope s__law_pick) .none kV34 dc34 pm34 an34 cd34 ct34), sl34⟩) (c34 : PySem.W.codeIn K cd34 "_law_pick" = true) (k34 : PySem.W.keepIn K (.ref f34) = true)
    (a35 : PySem.W.nsIn K mainGlobals "_law_regulator" = some (some (.ref f35))) (l35 : K.lookup f35 = some ⟨oc35, od35, .func (PySem.W.fnOf "_law_regulator" "_law_regulator" (defArgs s__law_regulator) (defBody s__law_regulator) (defScope s__law_regulator) .none kV35 dc35 pm35 an35 cd35 ct35), sl35⟩) (c35 : PySem.W.codeIn K cd35 "_law_regulator" = true) (k35 : PySem.W.keepIn K (.ref f35) = true)
    (a36 : PySem.W.nsIn K mainGlobals "_law_row" = some (some (.ref f36))) (l36 : K.lookup f36 = some ⟨oc36, od36, .func (PySem.W.fnOf "_law_row" "_law_row" (defArgs s__law_row) (defBody s__law_row) (defScope s__law_row) .none kV36 dc36 pm36 an36 cd36 ct36), sl36⟩) (c36 : PySem.W.codeIn K cd36 "_law_row" = true) (k36 : PySem.W.keepIn K (.ref f36) = true)
    (a37 : PySem.W.nsIn K mainGlobals "_law_words" = some (some (.ref f37))) (l37 : K.lookup f37 = some ⟨oc37, od37, .func (PySem.W.fnOf "_law_words" "_law_words" (defArgs s__law_words) (defBody s__law_words) (defScope s__law_words) .none kV37 dc37 pm37 an37 cd37 ct37), sl37⟩) (c37 : PySem.W.codeIn K cd37 "_law_words" = true) (k37 : PySem.W.keepIn K (.ref f37) = true)
    (a38 : PySem.W.nsIn K mainGlobals "law" = some (some (.ref f38))) (l38 : K.lookup f38 = some ⟨oc38, od38, .func (PySem.W.fnOf "law" "law" (defArgs s_law) (defBody s_law) (defScope s_law) .none kV38 dc38 pm38 an38 cd38 ct38), sl38⟩) (c38 : PySem.W.codeIn K cd38 "law" = true) (k38 : PySem.W.keepIn K (.ref f38) = true)
    (z_list : PySem.W.nsIn K mainGlobals "list" = some none)
    (z_isinstance : PySem.W.nsIn K mainGlobals "isinstance" = some none)
    (z_int : PySem.W.nsIn K mainGlobals "int" = some none)
    (z_bool : PySem.W.nsIn K mainGlobals "bool" = some none)
    (z_tuple : PySem.W.nsIn K mainGlobals "tuple" = some none)
    (z_len : PySem.W.nsIn K mainGlobals "len" = some none)
    (z_str : PySem.W.nsIn K mainGlobals "str" = some none)
    (z_all : PySem.W.nsIn K mainGlobals "all" = some none)
    (z_min : PySem.W.nsIn K mainGlobals "min" = some none)
    (z_max : PySem.W.nsIn K mainGlobals "max" = some none)
    (z_ValueError : PySem.W.nsIn K mainGlobals "ValueError" = some none)
    (z_range : PySem.W.nsIn K mainGlobals "range" = some none)
    (xa_BadRoom : PySem.W.nsIn K mainGlobals "BadRoom" = some (some (.ref e_BadRoom))) (xk_BadRoom : PySem.W.keepIn K (.ref e_BadRoom) = true) (xe_BadRoom : PySem.W.excIn K e_BadRoom [.type "ValueError", .type "Exception", .type "BaseException", .type "object"] "ValueError.__new__" = true) (xb_BadRoom : PySem.W.subIn K (.ref e_BadRoom) (.type "BaseException") = some true) (xt_BadRoom : PySem.W.typeIn K (.ref e_BadRoom) = some (.type "type"))
    (xa_BadRegulator : PySem.W.nsIn K mainGlobals "BadRegulator" = some (some (.ref e_BadRegulator))) (xk_BadRegulator : PySem.W.keepIn K (.ref e_BadRegulator) = true) (xe_BadRegulator : PySem.W.excIn K e_BadRegulator [.type "ValueError", .type "Exception", .type "BaseException", .type "object"] "ValueError.__new__" = true) (xb_BadRegulator : PySem.W.subIn K (.ref e_BadRegulator) (.type "BaseException") = some true) (xt_BadRegulator : PySem.W.typeIn K (.ref e_BadRegulator) = some (.type "type"))
    (xa_BadWeather : PySem.W.nsIn K mainGlobals "BadWeather" = some (some (.ref e_BadWeather))) (xk_BadWeather : PySem.W.keepIn K (.ref e_BadWeather) = true) (xe_BadWeather : PySem.W.excIn K e_BadWeather [.type "ValueError", .type "Exception", .type "BaseException", .type "object"] "ValueError.__new__" = true) (xb_BadWeather : PySem.W.subIn K (.ref e_BadWeather) (.type "BaseException") = some true) (xt_BadWeather : PySem.W.typeIn K (.ref e_BadWeather) = some (.type "type"))
    (xa_BadNumber : PySem.W.nsIn K mainGlobals "BadNumber" = some (some (.ref e_BadNumber))) (xk_BadNumber : PySem.W.keepIn K (.ref e_BadNumber) = true) (xe_BadNumber : PySem.W.excIn K e_BadNumber [.type "ValueError", .type "Exception", .type "BaseException", .type "object"] "ValueError.__new__" = true) (xb_BadNumber : PySem.W.subIn K (.ref e_BadNumber) (.type "BaseException") = some true) (xt_BadNumber : PySem.W.typeIn K (.ref e_BadNumber) = some (.type "type"))
    (xa_BadMarks : PySem.W.nsIn K mainGlobals "BadMarks" = some (some (.ref e_BadMarks))) (xk_BadMarks : PySem.W.keepIn K (.ref e_BadMarks) = true) (xe_BadMarks : PySem.W.excIn K e_BadMarks [.type "ValueError", .type "Exception", .type "BaseException", .type "object"] "ValueError.__new__" = true) (xb_BadMarks : PySem.W.subIn K (.ref e_BadMarks) (.type "BaseException") = some true) (xt_BadMarks : PySem.W.typeIn K (.ref e_BadMarks) = some (.type "type"))
    (xa_BadText : PySem.W.nsIn K mainGlobals "BadText" = some (some (.ref e_BadText))) (xk_BadText : PySem.W.keepIn K (.ref e_BadText) = true) (xe_BadText : PySem.W.excIn K e_BadText [.type "ValueError", .type "Exception", .type "BaseException", .type "object"] "ValueError.__new__" = true) (xb_BadText : PySem.W.subIn K (.ref e_BadText) (.type "BaseException") = some true) (xt_BadText : PySem.W.typeIn K (.ref e_BadText) = some (.type "type"))
    (xa_NotFound : PySem.W.nsIn K mainGlobals "NotFound" = some (some (.ref e_NotFound))) (xk_NotFound : PySem.W.keepIn K (.ref e_NotFound) = true) (xe_NotFound : PySem.W.excIn K e_NotFound [.type "ValueError", .type "Exception", .type "BaseException", .type "object"] "ValueError.__new__" = true) (xb_NotFound : PySem.W.subIn K (.ref e_NotFound) (.type "BaseException") = some true) (xt_NotFound : PySem.W.typeIn K (.ref e_NotFound) = some (.type "type"))
    (xa_HeatError : PySem.W.nsIn K mainGlobals "HeatError" = some (some (.ref e_HeatError))) (xk_HeatError : PySem.W.keepIn K (.ref e_HeatError) = true) (xe_HeatError : PySem.W.excIn K e_HeatError [.type "ValueError", .type "Exception", .type "BaseException", .type "object"] "ValueError.__new__" = true) (xb_HeatError : PySem.W.subIn K (.ref e_HeatError) (.type "BaseException") = some true) (xt_HeatError : PySem.W.typeIn K (.ref e_HeatError) = some (.type "type"))
    (xc_BadRoom : PySem.W.clsIn K e_BadRoom = some xcd_BadRoom)
    (xc_BadRegulator : PySem.W.clsIn K e_BadRegulator = some xcd_BadRegulator)
    (xc_BadWeather : PySem.W.clsIn K e_BadWeather = some xcd_BadWeather)
    (xc_BadMarks : PySem.W.clsIn K e_BadMarks = some xcd_BadMarks)
    (xc_BadNumber : PySem.W.clsIn K e_BadNumber = some xcd_BadNumber)
    (xc_BadText : PySem.W.clsIn K e_BadText = some xcd_BadText)
    (xc_NotFound : PySem.W.clsIn K e_NotFound = some xcd_NotFound)
    (xc_HeatError : PySem.W.clsIn K e_HeatError = some xcd_HeatError)
    (xg_BadRoom : PySem.W.findIn K (.ref e_BadRoom) "__getattribute__" = some (some (.builtin "BaseException.__getattribute__"))) (xh_BadRoom : PySem.W.findIn K (.ref e_BadRoom) "__getattr__" = some none) (xl_BadRoom : PySem.W.findIn K (.ref e_BadRoom) "__class__" = some (some (.builtin "object.__class__"))) (xm_BadRoom : PySem.W.mroIn K e_BadRoom (.type "object") = some true) (xp_BadRoom : PySem.W.subIn K (.ref e_BadRoom) (.ref e_HeatError) = some true) (xv_BadRoom : PySem.W.subIn K (.ref e_BadRoom) (.type "ValueError") = some true)
    (xs_BadRoom_BadRoom : PySem.W.subIn K (.ref e_BadRoom) (.ref e_BadRoom) = some (decide (e_BadRoom = e_BadRoom)))
    (xs_BadRoom_BadRegulator : PySem.W.subIn K (.ref e_BadRoom) (.ref e_BadRegulator) = some (decide (e_BadRoom = e_BadRegulator)))
    (xs_BadRoom_BadWeather : PySem.W.subIn K (.ref e_BadRoom) (.ref e_BadWeather) = some (decide (e_BadRoom = e_BadWeather)))
    (xs_BadRoom_BadMarks : PySem.W.subIn K (.ref e_BadRoom) (.ref e_BadMarks) = some (decide (e_BadRoom = e_BadMarks)))
    (xs_BadRoom_BadNumber : PySem.W.subIn K (.ref e_BadRoom) (.ref e_BadNumber) = some (decide (e_BadRoom = e_BadNumber)))
    (xs_BadRoom_BadText : PySem.W.subIn K (.ref e_BadRoom) (.ref e_BadText) = some (decide (e_BadRoom = e_BadText)))
    (xs_BadRoom_NotFound : PySem.W.subIn K (.ref e_BadRoom) (.ref e_NotFound) = some (decide (e_BadRoom = e_NotFound)))
    (xg_BadRegulator : PySem.W.findIn K (.ref e_BadRegulator) "__getattribute__" = some (some (.builtin "BaseException.__getattribute__"))) (xh_BadRegulator : PySem.W.findIn K (.ref e_BadRegulator) "__getattr__" = some none) (xl_BadRegulator : PySem.W.findIn K (.ref e_BadRegulator) "__class__" = some (some (.builtin "object.__class__"))) (xm_BadRegulator : PySem.W.mroIn K e_BadRegulator (.type "object") = some true) (xp_BadRegulator : PySem.W.subIn K (.ref e_BadRegulator) (.ref e_HeatError) = some true) (xv_BadRegulator : PySem.W.subIn K (.ref e_BadRegulator) (.type "ValueError") = some true)
    (xs_BadRegulator_BadRoom : PySem.W.subIn K (.ref e_BadRegulator) (.ref e_BadRoom) = some (decide (e_BadRegulator = e_BadRoom)))
    (xs_BadRegulator_BadRegulator : PySem.W.subIn K (.ref e_BadRegulator) (.ref e_BadRegulator) = some (decide (e_BadRegulator = e_BadRegulator)))
    (xs_BadRegulator_BadWeather : PySem.W.subIn K (.ref e_BadRegulator) (.ref e_BadWeather) = some (decide (e_BadRegulator = e_BadWeather)))
    (xs_BadRegulator_BadMarks : PySem.W.subIn K (.ref e_BadRegulator) (.ref e_BadMarks) = some (decide (e_BadRegulator = e_BadMarks)))
    (xs_BadRegulator_BadNumber : PySem.W.subIn K (.ref e_BadRegulator) (.ref e_BadNumber) = some (decide (e_BadRegulator = e_BadNumber)))
    (xs_BadRegulator_BadText : PySem.W.subIn K (.ref e_BadRegulator) (.ref e_BadText) = some (decide (e_BadRegulator = e_BadText)))
    (xs_BadRegulator_NotFound : PySem.W.subIn K (.ref e_BadRegulator) (.ref e_NotFound) = some (decide (e_BadRegulator = e_NotFound)))
    (xg_BadWeather : PySem.W.findIn K (.ref e_BadWeather) "__getattribute__" = some (some (.builtin "BaseException.__getattribute__"))) (xh_BadWeather : PySem.W.findIn K (.ref e_BadWeather) "__getattr__" = some none) (xl_BadWeather : PySem.W.findIn K (.ref e_BadWeather) "__class__" = some (some (.builtin "object.__class__"))) (xm_BadWeather : PySem.W.mroIn K e_BadWeather (.type "object") = some true) (xp_BadWeather : PySem.W.subIn K (.ref e_BadWeather) (.ref e_HeatError) = some true) (xv_BadWeather : PySem.W.subIn K (.ref e_BadWeather) (.type "ValueError") = some true)
    (xs_BadWeather_BadRoom : PySem.W.subIn K (.ref e_BadWeather) (.ref e_BadRoom) = some (decide (e_BadWeather = e_BadRoom)))
    (xs_BadWeather_BadRegulator : PySem.W.subIn K (.ref e_BadWeather) (.ref e_BadRegulator) = some (decide (e_BadWeather = e_BadRegulator)))
    (xs_BadWeather_BadWeather : PySem.W.subIn K (.ref e_BadWeather) (.ref e_BadWeather) = some (decide (e_BadWeather = e_BadWeather)))
    (xs_BadWeather_BadMarks : PySem.W.subIn K (.ref e_BadWeather) (.ref e_BadMarks) = some (decide (e_BadWeather = e_BadMarks)))
    (xs_BadWeather_BadNumber : PySem.W.subIn K (.ref e_BadWeather) (.ref e_BadNumber) = some (decide (e_BadWeather = e_BadNumber)))
    (xs_BadWeather_BadText : PySem.W.subIn K (.ref e_BadWeather) (.ref e_BadText) = some (decide (e_BadWeather = e_BadText)))
    (xs_BadWeather_NotFound : PySem.W.subIn K (.ref e_BadWeather) (.ref e_NotFound) = some (decide (e_BadWeather = e_NotFound)))
    (xg_BadMarks : PySem.W.findIn K (.ref e_BadMarks) "__getattribute__" = some (some (.builtin "BaseException.__getattribute__"))) (xh_BadMarks : PySem.W.findIn K (.ref e_BadMarks) "__getattr__" = some none) (xl_BadMarks : PySem.W.findIn K (.ref e_BadMarks) "__class__" = some (some (.builtin "object.__class__"))) (xm_BadMarks : PySem.W.mroIn K e_BadMarks (.type "object") = some true) (xp_BadMarks : PySem.W.subIn K (.ref e_BadMarks) (.ref e_HeatError) = some true) (xv_BadMarks : PySem.W.subIn K (.ref e_BadMarks) (.type "ValueError") = some true)
    (xs_BadMarks_BadRoom : PySem.W.subIn K (.ref e_BadMarks) (.ref e_BadRoom) = some (decide (e_BadMarks = e_BadRoom)))
    (xs_BadMarks_BadRegulator : PySem.W.subIn K (.ref e_BadMarks) (.ref e_BadRegulator) = some (decide (e_BadMarks = e_BadRegulator)))
    (xs_BadMarks_BadWeather : PySem.W.subIn K (.ref e_BadMarks) (.ref e_BadWeather) = some (decide (e_BadMarks = e_BadWeather)))
    (xs_BadMarks_BadMarks : PySem.W.subIn K (.ref e_BadMarks) (.ref e_BadMarks) = some (decide (e_BadMarks = e_BadMarks)))
    (xs_BadMarks_BadNumber : PySem.W.subIn K (.ref e_BadMarks) (.ref e_BadNumber) = some (decide (e_BadMarks = e_BadNumber)))
    (xs_BadMarks_BadText : PySem.W.subIn K (.ref e_BadMarks) (.ref e_BadText) = some (decide (e_BadMarks = e_BadText)))
    (xs_BadMarks_NotFound : PySem.W.subIn K (.ref e_BadMarks) (.ref e_NotFound) = some (decide (e_BadMarks = e_NotFound)))
    (xg_BadNumber : PySem.W.findIn K (.ref e_BadNumber) "__getattribute__" = some (some (.builtin "BaseException.__getattribute__"))) (xh_BadNumber : PySem.W.findIn K (.ref e_BadNumber) "__getattr__" = some none) (xl_BadNumber : PySem.W.findIn K (.ref e_BadNumber) "__class__" = some (some (.builtin "object.__class__"))) (xm_BadNumber : PySem.W.mroIn K e_BadNumber (.type "object") = some true) (xp_BadNumber : PySem.W.subIn K (.ref e_BadNumber) (.ref e_HeatError) = some true) (xv_BadNumber : PySem.W.subIn K (.ref e_BadNumber) (.type "ValueError") = some true)
    (xs_BadNumber_BadRoom : PySem.W.subIn K (.ref e_BadNumber) (.ref e_BadRoom) = some (decide (e_BadNumber = e_BadRoom)))
    (xs_BadNumber_BadRegulator : PySem.W.subIn K (.ref e_BadNumber) (.ref e_BadRegulator) = some (decide (e_BadNumber = e_BadRegulator)))
    (xs_BadNumber_BadWeather : PySem.W.subIn K (.ref e_BadNumber) (.ref e_BadWeather) = some (decide (e_BadNumber = e_BadWeather)))
    (xs_BadNumber_BadMarks : PySem.W.subIn K (.ref e_BadNumber) (.ref e_BadMarks) = some (decide (e_BadNumber = e_BadMarks)))
    (xs_BadNumber_BadNumber : PySem.W.subIn K (.ref e_BadNumber) (.ref e_BadNumber) = some (decide (e_BadNumber = e_BadNumber)))
    (xs_BadNumber_BadText : PySem.W.subIn K (.ref e_BadNumber) (.ref e_BadText) = some (decide (e_BadNumber = e_BadText)))
    (xs_BadNumber_NotFound : PySem.W.subIn K (.ref e_BadNumber) (.ref e_NotFound) = some (decide (e_BadNumber = e_NotFound)))
    (xg_BadText : PySem.W.findIn K (.ref e_BadText) "__getattribute__" = some (some (.builtin "BaseException.__getattribute__"))) (xh_BadText : PySem.W.findIn K (.ref e_BadText) "__getattr__" = some none) (xl_BadText : PySem.W.findIn K (.ref e_BadText) "__class__" = some (some (.builtin "object.__class__"))) (xm_BadText : PySem.W.mroIn K e_BadText (.type "object") = some true) (xp_BadText : PySem.W.subIn K (.ref e_BadText) (.ref e_HeatError) = some true) (xv_BadText : PySem.W.subIn K (.ref e_BadText) (.type "ValueError") = some true)
    (xs_BadText_BadRoom : PySem.W.subIn K (.ref e_BadText) (.ref e_BadRoom) = some (decide (e_BadText = e_BadRoom)))
    (xs_BadText_BadRegulator : PySem.W.subIn K (.ref e_BadText) (.ref e_BadRegulator) = some (decide (e_BadText = e_BadRegulator)))
    (xs_BadText_BadWeather : PySem.W.subIn K (.ref e_BadText) (.ref e_BadWeather) = some (decide (e_BadText = e_BadWeather)))
    (xs_BadText_BadMarks : PySem.W.subIn K (.ref e_BadText) (.ref e_BadMarks) = some (decide (e_BadText = e_BadMarks)))
    (xs_BadText_BadNumber : PySem.W.subIn K (.ref e_BadText) (.ref e_BadNumber) = some (decide (e_BadText = e_BadNumber)))
    (xs_BadText_BadText : PySem.W.subIn K (.ref e_BadText) (.ref e_BadText) = some (decide (e_BadText = e_BadText)))
    (xs_BadText_NotFound : PySem.W.subIn K (.ref e_BadText) (.ref e_NotFound) = some (decide (e_BadText = e_NotFound)))
    (xg_NotFound : PySem.W.findIn K (.ref e_NotFound) "__getattribute__" = some (some (.builtin "BaseException.__getattribute__"))) (xh_NotFound : PySem.W.findIn K (.ref e_NotFound) "__getattr__" = some none) (xl_NotFound : PySem.W.findIn K (.ref e_NotFound) "__class__" = some (some (.builtin "object.__class__"))) (xm_NotFound : PySem.W.mroIn K e_NotFound (.type "object") = some true) (xp_NotFound : PySem.W.subIn K (.ref e_NotFound) (.ref e_HeatError) = some true) (xv_NotFound : PySem.W.subIn K (.ref e_NotFound) (.type "ValueError") = some true)
    (xs_NotFound_BadRoom : PySem.W.subIn K (.ref e_NotFound) (.ref e_BadRoom) = some (decide (e_NotFound = e_BadRoom)))
    (xs_NotFound_BadRegulator : PySem.W.subIn K (.ref e_NotFound) (.ref e_BadRegulator) = some (decide (e_NotFound = e_BadRegulator)))
    (xs_NotFound_BadWeather : PySem.W.subIn K (.ref e_NotFound) (.ref e_BadWeather) = some (decide (e_NotFound = e_BadWeather)))
    (xs_NotFound_BadMarks : PySem.W.subIn K (.ref e_NotFound) (.ref e_BadMarks) = some (decide (e_NotFound = e_BadMarks)))
    (xs_NotFound_BadNumber : PySem.W.subIn K (.ref e_NotFound) (.ref e_BadNumber) = some (decide (e_NotFound = e_BadNumber)))
    (xs_NotFound_BadText : PySem.W.subIn K (.ref e_NotFound) (.ref e_BadText) = some (decide (e_NotFound = e_BadText)))
    (xs_NotFound_NotFound : PySem.W.subIn K (.ref e_NotFound) (.ref e_NotFound) = some (decide (e_NotFound = e_NotFound)))
    (xhn : PySem.W.specialIn K (.builtin "object.__class__") "__get__" = some (some (.builtin "getset_descriptor.__get__"))) (xtk : PySem.W.takesIn K (.builtin "object.__class__") = some true) (xnd : [e_BadRoom, e_BadRegulator, e_BadWeather, e_BadMarks, e_BadNumber, e_BadText, e_NotFound].Nodup)
    (da_SIZES : PySem.W.nsIn K mainGlobals "SIZES" = some (some (.ref d_SIZES))) (dl_SIZES : K.lookup d_SIZES = some ⟨.type "dict", none, .dict de_SIZES dn_SIZES, #[]⟩) (dk_SIZES : PySem.W.KeysLit w.params de_SIZES.toList) (ds_SIZES : (d_SIZES == sysModules) = false) (dt_SIZES : Ent de_SIZES.toList l_SIZES)
    (i_MOST_ROW : PySem.W.nsIn K mainGlobals "MOST_ROW" = some (some (.int 60 iu_MOST_ROW)))
    (i_MOST_MARKS : PySem.W.nsIn K mainGlobals "MOST_MARKS" = some (some (.int 60 iu_MOST_MARKS)))
    (i_WIDEST : PySem.W.nsIn K mainGlobals "WIDEST" = some (some (.int 10 iu_WIDEST)))
    (ta_HEATS : PySem.W.nsIn K mainGlobals "HEATS" = some (some (.ref t_HEATS))) (tl_HEATS : K.lookup t_HEATS = some ⟨.type "tuple", none, .seq ti_HEATS tn_HEATS, ts_HEATS⟩) (tz_HEATS : ti_HEATS.size ≤ sizeLine) (tv_HEATS : Vals ((ns_HEATS.map D.str).map D.v) ti_HEATS.toList)
    : ∃ fd : FuncData, (∀ (s : Shared) (v : Value), BindsTo s fd ⟨[v], []⟩ [("script", v)]) ∧ ∀ base : Heap, K.In base → base.Ns mainGlobals mg → FnOk l.prog w K mg base (L2.CX l.prog w) 8 fa fd ["script"] (spLaw K) := by
  have e := hfa.symm.trans (PySem.W.mg_of X G a38)
  cases e
  let x : Xc := ⟨e_HeatError, e_BadRoom, e_BadRegulator, e_BadWeather, e_BadMarks, e_BadNumber, e_BadText, e_NotFound⟩
  let ds : Str → Addr := fun z => if z = "SIZES" then d_SIZES else  0
  have xa : XAll K x := xall_of ⟨xb_HeatError, by rw [xc_HeatError]; rfl, xt_HeatError⟩ xhn xtk (all7 ⟨by rw [xc_BadRoom]; rfl, xt_BadRoom, xg_BadRoom, xh_BadRoom, xb_BadRoom, xl_BadRoom, xm_BadRoom, xp_BadRoom, xv_BadRoom⟩ ⟨by rw [xc_BadRegulator]; rfl, xt_BadRegulator, xg_BadRegulator, xh_BadRegulator, xb_BadRegulator, xl_BadRegulator, xm_BadRegulator, xp_BadRegulator, xv_BadRegulator⟩ ⟨by rw [xc_BadWeather]; rfl, xt_BadWeather, xg_BadWeather, xh_BadWeather, xb_BadWeather, xl_BadWeather, xm_BadWeather, xp_BadWeather, xv_BadWeather⟩ ⟨by rw [xc_BadMarks]; rfl, xt_BadMarks, xg_BadMarks, xh_BadMarks, xb_BadMarks, xl_BadMarks, xm_BadMarks, xp_BadMarks, xv_BadMarks⟩ ⟨by rw [xc_BadNumber]; rfl, xt_BadNumber, xg_BadNumber, xh_BadNumber, xb_BadNumber, xl_BadNumber, xm_BadNumber, xp_BadNumber, xv_BadNumber⟩ ⟨by rw [xc_BadText]; rfl, xt_BadText, xg_BadText, xh_BadText, xb_BadText, xl_BadText, xm_BadText, xp_BadText, xv_BadText⟩ ⟨by rw [xc_NotFound]; rfl, xt_NotFound, xg_NotFound, xh_NotFound, xb_NotFound, xl_NotFound, xm_NotFound, xp_NotFound, xv_NotFound⟩) (all7 (all7 xs_BadRoom_BadRoom xs_BadRoom_BadRegulator xs_BadRoom_BadWeather xs_BadRoom_BadMarks xs_BadRoom_BadNumber xs_BadRoom_BadText xs_BadRoom_NotFound) (all7 xs_BadRegulator_BadRoom xs_BadRegulator_BadRegulator xs_BadRegulator_BadWeather xs_BadRegulator_BadMarks xs_BadRegulator_BadNumber xs_BadRegulator_BadText xs_BadRegulator_NotFound) (all7 xs_BadWeather_BadRoom xs_BadWeather_BadRegulator xs_BadWeather_BadWeather xs_BadWeather_BadMarks xs_BadWeather_BadNumber xs_BadWeather_BadText xs_BadWeather_NotFound) (all7 xs_BadMarks_BadRoom xs_BadMarks_BadRegulator xs_BadMarks_BadWeather xs_BadMarks_BadMarks xs_BadMarks_BadNumber xs_BadMarks_BadText xs_BadMarks_NotFound) (all7 xs_BadNumber_BadRoom xs_BadNumber_BadRegulator xs_BadNumber_BadWeather xs_BadNumber_BadMarks xs_BadNumber_BadNumber xs_BadNumber_BadText xs_BadNumber_NotFound) (all7 xs_BadText_BadRoom xs_BadText_BadRegulator xs_BadText_BadWeather xs_BadText_BadMarks xs_BadText_BadNumber xs_BadText_BadText xs_BadText_NotFound) (all7 xs_NotFound_BadRoom xs_NotFound_BadRegulator xs_NotFound_BadWeather xs_NotFound_BadMarks xs_NotFound_BadNumber xs_NotFound_BadText xs_NotFound_NotFound)) xnd
  have M : Mf K w mg x ds := ⟨PySem.W.mg_none_of X G z_list, PySem.W.mg_none_of X G z_isinstance, PySem.W.mg_none_of X G z_int, PySem.W.mg_none_of X G z_bool, PySem.W.mg_none_of X G z_tuple, PySem.W.mg_none_of X G z_len, PySem.W.mg_none_of X G z_str, PySem.W.mg_none_of X G z_all, PySem.W.mg_none_of X G z_min, PySem.W.mg_none_of X G z_max, PySem.W.mg_none_of X G z_ValueError, PySem.W.mg_none_of X G z_range, ⟨PySem.W.mg_of X G xa_BadRoom, xk_BadRoom, xe_BadRoom, xb_BadRoom, xt_BadRoom⟩, ⟨PySem.W.mg_of X G xa_BadRegulator, xk_BadRegulator, xe_BadRegulator, xb_BadRegulator, xt_BadRegulator⟩, ⟨PySem.W.mg_of X G xa_BadWeather, xk_BadWeather, xe_BadWeather, xb_BadWeather, xt_BadWeather⟩, ⟨PySem.W.mg_of X G xa_BadNumber, xk_BadNumber, xe_BadNumber, xb_BadNumber, xt_BadNumber⟩, ⟨PySem.W.mg_of X G xa_BadMarks, xk_BadMarks, xe_BadMarks, xb_BadMarks, xt_BadMarks⟩, ⟨PySem.W.mg_of X G xa_BadText, xk_BadText, xe_BadText, xb_BadText, xt_BadText⟩, ⟨PySem.W.mg_of X G xa_NotFound, xk_NotFound, xe_NotFound, xb_NotFound, xt_NotFound⟩, ⟨PySem.W.mg_of X G xa_HeatError, xk_HeatError, xe_HeatError, xb_HeatError, xt_HeatError⟩, xa, ⟨PySem.W.mg_of X G da_SIZES, ⟨de_SIZES, dn_SIZES, ⟨dl_SIZES, dk_SIZES, ds_SIZES⟩, dt_SIZES⟩⟩, ⟨_, PySem.W.mg_of X G i_MOST_ROW, ⟨_, rfl⟩⟩, ⟨_, PySem.W.mg_of X G i_MOST_MARKS, ⟨_, rfl⟩⟩, ⟨_, PySem.W.mg_of X G i_WIDEST, ⟨_, rfl⟩⟩, ⟨_, _, PySem.W.mg_of X G ta_HEATS, tl_HEATS, rfl, rfl, ⟨_, _, _, tl_HEATS, rfl, rfl, tz_HEATS, tv_HEATS⟩, rfl⟩⟩
  have F1 := fun_mk (st := s__law_start) l1 c1 k1
  have F2 := fun_mk (st := s_is_int) l2 c2 k2
  have F3 := fun_mk (st := s_is_room) l3 c3 k3
  have F4 := fun_mk (st := s_check_room) l4 c4 k4
  have F5 := fun_mk (st := s_is_for) l5 c5 k5
  have F6 := fun_mk (st := s_check_regulator) l6 c6 k6
  have F7 := fun_mk (st := s_is_weather) l7 c7 k7
  have F8 := fun_mk (st := s_is_row) l8 c8 k8
  have F9 := fun_mk (st := s_check_row) l9 c9 k9
  have F10 := fun_mk (st := s_check_number) l10 c10 k10
  have F11 := fun_mk (st := s_check_sight) l11 c11 k11
  have F12 := fun_mk (st := s_mark_of) l12 c12 k12
  have F13 := fun_mk (st := s_first_state) l13 c13 k13
  have F14 := fun_mk (st := s_warmed) l14 c14 k14
  have F15 := fun_mk (st := s_decided) l15 c15 k15
  have F16 := fun_mk (st := s_set_switch) l16 c16 k16
  have F17 := fun_mk (st := s_step) l17 c17 k17
  have F18 := fun_mk (st := s_states_of) l18 c18 k18
  have F19 := fun_mk (st := s_marks_of) l19 c19 k19
  have F20 := fun_mk (st := s_is_mark) l20 c20 k20
  have F21 := fun_mk (st := s_is_mark_row) l21 c21 k21
  have F22 := fun_mk (st := s_are_marks) l22 c22 k22
  have F23 := fun_mk (st := s_mark_text) l23 c23 k23
  have F24 := fun_mk (st := s_format_marks) l24 c24 k24
  have F25 := fun_mk (st := s_check_text) l25 c25 k25
  have F26 := fun_mk (st := s_mark_in) l26 c26 k26
  have F27 := fun_mk (st := s_parse_marks) l27 c27 k27
  have F28 := fun_mk (st := s__law_error) l28 c28 k28
  have F29 := fun_mk (st := s__law_parsed) l29 c29 k29
  have F30 := fun_mk (st := s__law_written) l30 c30 k30
  have F31 := fun_mk (st := s__law_rejected) l31 c31 k31
  have F32 := fun_mk (st := s__law_draw) l32 c32 k32
  have F33 := fun_mk (st := s__law_room) l33 c33 k33
  have F34 := fun_mk (st := s__law_pick) l34 c34 k34
  have F35 := fun_mk (st := s__law_regulator) l35 c35 k35
  have F36 := fun_mk (st := s__law_row) l36 c36 k36
  have F37 := fun_mk (st := s__law_words) l37 c37 k37
  have F38 := fun_mk (st := s_law) l38 c38 k38
  refine ⟨PySem.W.fnOf "law" "law" (defArgs s_law) (defBody s_law) (defScope s_law) .none kV38 dc38 pm38 an38 cd38 ct38, fun s v => .of_eq rfl, fun base _ _ => ?_⟩
  have G1 := fd__law_start (P := l.prog) (w := w) (base := base) F1 M.m_list
  have G2 := fd_is_int (P := l.prog) (base := base) M F2 (PySem.W.mg_of X G a2)
  have G3 := fd_is_room (P := l.prog) (base := base) M F3 (PySem.W.mg_of X G a3) G2
  have G4 := fd_check_room (P := l.prog) (base := base) M F4 (PySem.W.mg_of X G a4) G3
  have G5 := fd_is_for (P := l.prog) (base := base) M F5 (PySem.W.mg_of X G a5) G2
  have G6 := fd_check_regulator (P := l.prog) (base := base) M F6 (PySem.W.mg_of X G a6) G4 G5
  have G7 := fd_is_weather (P := l.prog) (base := base) M F7 (PySem.W.mg_of X G a7) G2
  have G8 := fd_is_row (P := l.prog) (base := base) M F8 (PySem.W.mg_of X G a8) G7
  have G9 := fd_check_row (P := l.prog) (base := base) M F9 (PySem.W.mg_of X G a9) G8
  have G10 := fd_check_number (P := l.prog) (base := base) M F10 (PySem.W.mg_of X G a10) G2
  have G11 := fd_check_sight (P := l.prog) (base := base) M F11 (PySem.W.mg_of X G a11) G10
  have G12 := fd_mark_of (P := l.prog) (base := base) M F12 (PySem.W.mg_of X G a12)
  have G13 := fd_first_state (P := l.prog) (base := base) M F13 (PySem.W.mg_of X G a13)
  have G14 := fd_warmed (P := l.prog) (base := base) M F14 (PySem.W.mg_of X G a14)
  have G15 := fd_decided (P := l.prog) (base := base) M F15 (PySem.W.mg_of X G a15)
  have G16 := fd_set_switch (P := l.prog) (base := base) M F16 (PySem.W.mg_of X G a16) G15
  have G17 := fd_step (P := l.prog) (base := base) M F17 (PySem.W.mg_of X G a17) G14 G16
  have G18 := fd_states_of (P := l.prog) (base := base) M F18 (PySem.W.mg_of X G a18) G13 G17
  have G19 := fd_marks_of (P := l.prog) (base := base) M F19 (PySem.W.mg_of X G a19) G6 G9 G11 G12 G18
  have G20 := fd_is_mark (P := l.prog) (base := base) M F20 (PySem.W.mg_of X G a20) G2
  have G21 := fd_is_mark_row (P := l.prog) (base := base) M F21 (PySem.W.mg_of X G a21) G20
  have G22 := fd_are_marks (P := l.prog) (base := base) M F22 (PySem.W.mg_of X G a22) G21
  have G23 := fd_mark_text (P := l.prog) (base := base) M F23 (PySem.W.mg_of X G a23)
  have G24 := fd_format_marks (P := l.prog) (base := base) M F24 (PySem.W.mg_of X G a24) G22 G23
  have G25 := fd_check_text (P := l.prog) (base := base) M F25 (PySem.W.mg_of X G a25)
  have G26 := fd_mark_in (P := l.prog) (base := base) M F26 (PySem.W.mg_of X G a26)
  have G27 := fd_parse_marks (P := l.prog) (base := base) M F27 (PySem.W.mg_of X G a27) G25 G22 G26
  have G28 := fd__law_error (P := l.prog) (base := base) M F28 (PySem.W.mg_of X G a28)
  have G29 := fd__law_parsed (P := l.prog) (base := base) M F29 (PySem.W.mg_of X G a29) G27 G28
  have G30 := fd__law_written (P := l.prog) (base := base) M F30 (PySem.W.mg_of X G a30) G24 G28
  have G31 := fd__law_rejected (P := l.prog) (base := base) M F31 (PySem.W.mg_of X G a31) G29 G30
  have G32 := fd__law_draw (P := l.prog) (w := w) (base := base) F32 (PySem.W.mg_of X G a32) M.m_len
  have G33 := fd__law_room (P := l.prog) (base := base) M F33 (PySem.W.mg_of X G a33) G32
  have G34 := fd__law_pick (P := l.prog) (base := base) M F34 (PySem.W.mg_of X G a34) G32
  have G35 := fd__law_regulator (P := l.prog) (base := base) M F35 (PySem.W.mg_of X G a35) G32 G34
  have G36 := fd__law_row (P := l.prog) (base := base) M F36 (PySem.W.mg_of X G a36) G32 G34
  have G37 := fd__law_words (P := l.prog) (base := base) M F37 (PySem.W.mg_of X G a37)
  have bS := F1.binds (ps := ["script"]) fun _ _ _ _ _ _ us hl => match us, hl with | [_], _ => rfl
  exact fd_law (P := l.prog) (base := base) M F38 G1 (PySem.W.mg_of X G a1) k1 bS G19 G24 G31 G33 G32 G35 G36 G29 G37 G34 G30 (sem_law x xa.nd)
end HL
open PySem PySem.W PyProof.Rows
set_option maxHeartbeats 0 in
theorem PySem.Challenge.cw_heatclicks_k16_whole_mark_texts_holds : PySem.Challenge.rw_heatclicks_k16_whole_mark_texts.Holds := by
  w_on; o_law; k_head; (case hw => w_witness2)
  k_fill
  refine L2.walk_of (l := PySem.Challenge.rw_heatclicks_k16_whole_mark_texts) (n := 63) (k := 8) (x := "script") (CX := fun w => L2.CX PySem.Challenge.rw_heatclicks_k16_whole_mark_texts.prog w) (sp := fun w => HC.spLaw _) rfl (by decide) rfl ⟨rfl, by decide, by decide⟩ (fun w h Y => PySem.W.kIn_of Y) ?F (fun _ _ a ns hl _ hS => ⟨a, ns, rfl, hS, hl, fun _ => rfl⟩) (fun _ _ _ _ _ h => HC.noCX h)
  case F =>
    intro w mg fa h KX G hmg
    refine' HL.all_mk KX G hmg ?a1 ?l1 ?c1 ?k1 ?a2 ?l2 ?c2 ?k2 ?a3 ?l3 ?c3 ?k3 ?a4 ?l4 ?c4 ?k4 ?a5 ?l5 ?c5 ?k5 ?a6 ?l6 ?c6 ?k6 ?a7 ?l7 ?c7 ?k7 ?a8 ?l8 ?c8 ?k8 ?a9 ?l9 ?c9 ?k9 ?a10 ?l10 ?c10 ?k10 ?a11 ?l11 ?c11 ?k11 ?a12 ?l12 ?c12 ?k12 ?a13 ?l13 ?c13 ?k13 ?a14 ?l14 ?c14 ?k14 ?a15 ?l15 ?c15 ?k15 ?a16 ?l16 ?c16 ?k16 ?a17 ?l17 ?c17 ?k17 ?a18 ?l18 ?c18 ?k18 ?a19 ?l19 ?c19 ?k19 ?a20 ?l20 ?c20 ?k20 ?a21 ?l21 ?c21 ?k21 ?a22 ?l22 ?c22 ?k22 ?a23 ?l23 ?c23 ?k23 ?a24 ?l24 ?c24 ?k24 ?a25 ?l25 ?c25 ?k25 ?a26 ?l26 ?c26 ?k26 ?a27 ?l27 ?c27 ?k27 ?a28 ?l28 ?c28 ?k28 ?a29 ?l29 ?c29 ?k29 ?a30 ?l30 ?c30 ?k30 ?a31 ?l31 ?c31 ?k31 ?a32 ?l32 ?c32 ?k32 ?a33 ?l33 ?c33 ?k33 ?a34 ?l34 ?c34 ?k34 ?a35 ?l35 ?c35 ?k35 ?a36 ?l36 ?c36 ?k36 ?a37 ?l37 ?c37 ?k37 ?a38 ?l38 ?c38 ?k38 ?z_list ?z_isinstance ?z_int ?z_bool ?z_tuple ?z_len ?z_str ?z_all ?z_min ?z_max ?z_ValueError ?z_range ?xa_BadRoom ?xk_BadRoom ?xe_BadRoom ?xb_BadRoom ?xt_BadRoom ?xa_BadRegulator ?xk_BadRegulator ?xe_BadRegulator ?xb_BadRegulator ?xt_BadRegulator ?xa_BadWeather ?xk_BadWeather ?xe_BadWeather ?xb_BadWeather ?xt_BadWeather ?xa_BadNumber ?xk_BadNumber ?xe_BadNumber ?xb_BadNumber ?xt_BadNumber ?xa_BadMarks ?xk_BadMarks ?xe_BadMarks ?xb_BadMarks ?xt_BadMarks ?xa_BadText ?xk_BadText ?xe_BadText ?xb_BadText ?xt_BadText ?xa_NotFound ?xk_NotFound ?xe_NotFound ?xb_NotFound ?xt_NotFound ?xa_HeatError ?xk_HeatError ?xe_HeatError ?xb_HeatError ?xt_HeatError ?xc_BadRoom ?xc_BadRegulator ?xc_BadWeather ?xc_BadMarks ?xc_BadNumber ?xc_BadText ?xc_NotFound ?xc_HeatError ?xg_BadRoom ?xh_BadRoom ?xl_BadRoom ?xm_BadRoom ?xp_BadRoom ?xv_BadRoom ?xs_BadRoom_BadRoom ?xs_BadRoom_BadRegulator ?xs_BadRoom_BadWeather ?xs_BadRoom_BadMarks ?xs_BadRoom_BadNumber ?xs_BadRoom_BadText ?xs_BadRoom_NotFound ?xg_BadRegulator ?xh_BadRegulator ?xl_BadRegulator ?xm_BadRegulator ?xp_BadRegulator ?xv_BadRegulator ?xs_BadRegulator_BadRoom ?xs_BadRegulator_BadRegulator ?xs_BadRegulator_BadWeather ?xs_BadRegulator_BadMarks ?xs_BadRegulator_BadNumber ?xs_BadRegulator_BadText ?xs_BadRegulator_NotFound ?xg_BadWeather ?xh_BadWeather ?xl_BadWeather ?xm_BadWeather ?xp_BadWeather ?xv_BadWeather ?xs_BadWeather_BadRoom ?xs_BadWeather_BadRegulator ?xs_BadWeather_BadWeather ?xs_BadWeather_BadMarks ?xs_BadWeather_BadNumber ?xs_BadWeather_BadText ?xs_BadWeather_NotFound ?xg_BadMarks ?xh_BadMarks ?xl_BadMarks ?xm_BadMarks ?xp_BadMarks ?xv_BadMarks ?xs_BadMarks_BadRoom ?xs_BadMarks_BadRegulator ?xs_BadMarks_BadWeather ?xs_BadMarks_BadMarks ?xs_BadMarks_BadNumber ?xs_BadMarks_BadText ?xs_BadMarks_NotFound ?xg_BadNumber ?xh_BadNumber ?xl_BadNumber ?xm_BadNumber ?xp_BadNumber ?xv_BadNumber ?xs_BadNumber_BadRoom ?xs_BadNumber_BadRegulator ?xs_BadNumber_BadWeather ?xs_BadNumber_BadMarks ?xs_BadNumber_BadNumber ?xs_BadNumber_BadText ?xs_BadNumber_NotFound ?xg_BadText ?xh_BadText ?xl_BadText ?xm_BadText ?xp_BadText ?xv_BadText ?xs_BadText_BadRoom ?xs_BadText_BadRegulator ?xs_BadText_BadWeather ?xs_BadText_BadMarks ?xs_BadText_BadNumber ?xs_BadText_BadText ?xs_BadText_NotFound ?xg_NotFound ?xh_NotFound ?xl_NotFound ?xm_NotFound ?xp_NotFound ?xv_NotFound ?xs_NotFound_BadRoom ?xs_NotFound_BadRegulator ?xs_NotFound_BadWeather ?xs_NotFound_BadMarks ?xs_NotFound_BadNumber ?xs_NotFound_BadText ?xs_NotFound_NotFound ?xhn ?xtk ?xnd ?da_SIZES ?dl_SIZES ?dk_SIZES ?ds_SIZES ?dt_SIZES ?i_MOST_ROW ?i_MOST_MARKS ?i_WIDEST ?ta_HEATS ?tl_HEATS ?tz_HEATS ?tv_HEATS
    (case a1 => k_is)
    (case l1 => k_is)
    (case c1 => k_is)
    (case k1 => k_is)
    (case a2 => k_is)
    (case l2 => k_is)
    (case c2 => k_is)
    (case k2 => k_is)
    (case a3 => k_is)
    (case l3 => k_is)
    (case c3 => k_is)
    (case k3 => k_is)
    (case a4 => k_is)
    (case l4 => k_is)
    (case c4 => k_is)
    (case k4 => k_is)
    (case a5 => k_is)
    (case l5 => k_is)
    (case c5 => k_is)
    (case k5 => k_is)
    (case a6 => k_is)
    (case l6 => k_is)
    (case c6 => k_is)
    (case k6 => k_is)
    (case a7 => k_is)
    (case l7 => k_is)
    (case c7 => k_is)
    (case k7 => k_is)
    (case a8 => k_is)
    (case l8 => k_is)
    (case c8 => k_is)
    (case k8 => k_is)
    (case a9 => k_is)
    (case l9 => k_is)
    (case c9 => k_is)
    (case k9 => k_is)
    (case a10 => k_is)
    (case l10 => k_is)
    (case c10 => k_is)
    (case k10 => k_is)
    (case a11 => k_is)
    (case l11 => k_is)
    (case c11 => k_is)
    (case k11 => k_is)
    (case a12 => k_is)
    (case l12 => k_is)
    (case c12 => k_is)
    (case k12 => k_is)
    (case a13 => k_is)
    (case l13 => k_is)
    (case c13 => k_is)
    (case k13 => k_is)
    (case a14 => k_is)
    (case l14 => k_is)
    (case c14 => k_is)
    (case k14 => k_is)
    (case a15 => k_is)
    (case l15 => k_is)
    (case c15 => k_is)
    (case k15 => k_is)
    (case a16 => k_is)
    (case l16 => k_is)
    (case c16 => k_is)
    (case k16 => k_is)
    (case a17 => k_is)
    (case l17 => k_is)
    (case c17 => k_is)
    (case k17 => k_is)
    (case a18 => k_is)
    (case l18 => k_is)
    (case c18 => k_is)
    (case k18 => k_is)
    (case a19 => k_is)
    (case l19 => k_is)
    (case c19 => k_is)
    (case k19 => k_is)
    (case a20 => k_is)
    (case l20 => k_is)
    (case c20 => k_is)
    (case k20 => k_is)
    (case a21 => k_is)
    (case l21 => k_is)
    (case c21 => k_is)
    (case k21 => k_is)
    (case a22 => k_is)
    (case l22 => k_is)
    (case c22 => k_is)
    (case k22 => k_is)
    (case a23 => k_is)
    (case l23 => k_is)
    (case c23 => k_is)
    (case k23 => k_is)
    (case a24 => k_is)
    (case l24 => k_is)
    (case c24 => k_is)
    (case k24 => k_is)
    (case a25 => k_is)
    (case l25 => k_is)
    (case c25 => k_is)
    (case k25 => k_is)
    (case a26 => k_is)
    (case l26 => k_is)
    (case c26 => k_is)
    (case k26 => k_is)
    (case a27 => k_is)
    (case l27 => k_is)
    (case c27 => k_is)
    (case k27 => k_is)
    (case a28 => k_is)
    (case l28 => k_is)
    (case c28 => k_is)
    (case k28 => k_is)
    (case a29 => k_is)
    (case l29 => k_is)
    (case c29 => k_is)
    (case k29 => k_is)
    (case a30 => k_is)
    (case l30 => k_is)
    (case c30 => k_is)
    (case k30 => k_is)
    (case a31 => k_is)
    (case l31 => k_is)
    (case c31 => k_is)
    (case k31 => k_is)
    (case a32 => k_is)
    (case l32 => k_is)
    (case c32 => k_is)
    (case k32 => k_is)
    (case a33 => k_is)
    (case l33 => k_is)
    (case c33 => k_is)
    (case k33 => k_is)
    (case a34 => k_is)
    (case l34 => k_is)
    (case c34 => k_is)
    (case k34 => k_is)
    (case a35 => k_is)
    (case l35 => k_is)
    (case c35 => k_is)
    (case k35 => k_is)
    (case a36 => k_is)
    (case l36 => k_is)
    (case c36 => k_is)
    (case k36 => k_is)
    (case a37 => k_is)
    (case l37 => k_is)
    (case c37 => k_is)
    (case k37 => k_is)
    (case a38 => k_is)
    (case l38 => k_is)
    (case c38 => k_is)
    (case k38 => k_is)
    (case z_list => k_is)
    (case z_isinstance => k_is)
    (case z_int => k_is)
    (case z_bool => k_is)
    (case z_tuple => k_is)
    (case z_len => k_is)
    (case z_str => k_is)
    (case z_all => k_is)
    (case z_min => k_is)
    (case z_max => k_is)
    (case z_ValueError => k_is)
    (case z_range => k_is)
    (case xa_BadRoom => k_is)
    (case xk_BadRoom => k_is)
    (case xe_BadRoom => k_exc)
    (case xb_BadRoom => k_is)
    (case xt_BadRoom => k_is)
    (case xa_BadRegulator => k_is)
    (case xk_BadRegulator => k_is)
    (case xe_BadRegulator => k_exc)
    (case xb_BadRegulator => k_is)
    (case xt_BadRegulator => k_is)
    (case xa_BadWeather => k_is)
    (case xk_BadWeather => k_is)
    (case xe_BadWeather => k_exc)
    (case xb_BadWeather => k_is)
    (case xt_BadWeather => k_is)
    (case xa_BadNumber => k_is)
    (case xk_BadNumber => k_is)
    (case xe_BadNumber => k_exc)
    (case xb_BadNumber => k_is)
    (case xt_BadNumber => k_is)
    (case xa_BadMarks => k_is)
    (case xk_BadMarks => k_is)
    (case xe_BadMarks => k_exc)
    (case xb_BadMarks => k_is)
    (case xt_BadMarks => k_is)
    (case xa_BadText => k_is)
    (case xk_BadText => k_is)
    (case xe_BadText => k_exc)
    (case xb_BadText => k_is)
    (case xt_BadText => k_is)
    (case xa_NotFound => k_is)
    (case xk_NotFound => k_is)
    (case xe_NotFound => k_exc)
    (case xb_NotFound => k_is)
    (case xt_NotFound => k_is)
    (case xa_HeatError => k_is)
    (case xk_HeatError => k_is)
    (case xe_HeatError => k_exc)
    (case xb_HeatError => k_is)
    (case xt_HeatError => k_is)
    (case xc_BadRoom => k_is)
    (case xc_BadRegulator => k_is)
    (case xc_BadWeather => k_is)
    (case xc_BadMarks => k_is)
    (case xc_BadNumber => k_is)
    (case xc_BadText => k_is)
    (case xc_NotFound => k_is)
    (case xc_HeatError => k_is)
    (case xg_BadRoom => k_is)
    (case xh_BadRoom => k_is)
    (case xl_BadRoom => k_is)
    (case xm_BadRoom => k_is)
    (case xp_BadRoom => k_is)
    (case xv_BadRoom => k_is)
    (case xs_BadRoom_BadRoom => k_is)
    (case xs_BadRoom_BadRegulator => k_is)
    (case xs_BadRoom_BadWeather => k_is)
    (case xs_BadRoom_BadMarks => k_is)
    (case xs_BadRoom_BadNumber => k_is)
    (case xs_BadRoom_BadText => k_is)
    (case xs_BadRoom_NotFound => k_is)
    (case xg_BadRegulator => k_is)
    (case xh_BadRegulator => k_is)
    (case xl_BadRegulator => k_is)
    (case xm_BadRegulator => k_is)
    (case xp_BadRegulator => k_is)
    (case xv_BadRegulator => k_is)
    (case xs_BadRegulator_BadRoom => k_is)
    (case xs_BadRegulator_BadRegulator => k_is)
    (case xs_BadRegulator_BadWeather => k_is)
    (case xs_BadRegulator_BadMarks => k_is)
    (case xs_BadRegulator_BadNumber => k_is)
    (case xs_BadRegulator_BadText => k_is)
    (case xs_BadRegulator_NotFound => k_is)
    (case xg_BadWeather => k_is)
    (case xh_BadWeather => k_is)
    (case xl_BadWeather => k_is)
    (case xm_BadWeather => k_is)
    (case xp_BadWeather => k_is)
    (case xv_BadWeather => k_is)
    (case xs_BadWeather_BadRoom => k_is)
    (case xs_BadWeather_BadRegulator => k_is)
    (case xs_BadWeather_BadWeather => k_is)
    (case xs_BadWeather_BadMarks => k_is)
    (case xs_BadWeather_BadNumber => k_is)
    (case xs_BadWeather_BadText => k_is)
    (case xs_BadWeather_NotFound => k_is)
    (case xg_BadMarks => k_is)
    (case xh_BadMarks => k_is)
    (case xl_BadMarks => k_is)
    (case xm_BadMarks => k_is)
    (case xp_BadMarks => k_is)
    (case xv_BadMarks => k_is)
    (case xs_BadMarks_BadRoom => k_is)
    (case xs_BadMarks_BadRegulator => k_is)
    (case xs_BadMarks_BadWeather => k_is)
    (case xs_BadMarks_BadMarks => k_is)
    (case xs_BadMarks_BadNumber => k_is)
    (case xs_BadMarks_BadText => k_is)
    (case xs_BadMarks_NotFound => k_is)
    (case xg_BadNumber => k_is)
    (case xh_BadNumber => k_is)
    (case xl_BadNumber => k_is)
    (case xm_BadNumber => k_is)
    (case xp_BadNumber => k_is)
    (case xv_BadNumber => k_is)
    (case xs_BadNumber_BadRoom => k_is)
    (case xs_BadNumber_BadRegulator => k_is)
    (case xs_BadNumber_BadWeather => k_is)
    (case xs_BadNumber_BadMarks => k_is)
    (case xs_BadNumber_BadNumber => k_is)
    (case xs_BadNumber_BadText => k_is)
    (case xs_BadNumber_NotFound => k_is)
    (case xg_BadText => k_is)
    (case xh_BadText => k_is)
    (case xl_BadText => k_is)
    (case xm_BadText => k_is)
    (case xp_BadText => k_is)
    (case xv_BadText => k_is)
    (case xs_BadText_BadRoom => k_is)
    (case xs_BadText_BadRegulator => k_is)
    (case xs_BadText_BadWeather => k_is)
    (case xs_BadText_BadMarks => k_is)
    (case xs_BadText_BadNumber => k_is)
    (case xs_BadText_BadText => k_is)
    (case xs_BadText_NotFound => k_is)
    (case xg_NotFound => k_is)
    (case xh_NotFound => k_is)
    (case xl_NotFound => k_is)
    (case xm_NotFound => k_is)
    (case xp_NotFound => k_is)
    (case xv_NotFound => k_is)
    (case xs_NotFound_BadRoom => k_is)
    (case xs_NotFound_BadRegulator => k_is)
    (case xs_NotFound_BadWeather => k_is)
    (case xs_NotFound_BadMarks => k_is)
    (case xs_NotFound_BadNumber => k_is)
    (case xs_NotFound_BadText => k_is)
    (case xs_NotFound_NotFound => k_is)
    (case xhn => k_is)
    (case xtk => k_is)
    (case xnd => decide)
    (case da_SIZES => k_is)
    (case dl_SIZES => k_is)
    (case dk_SIZES => exact He.keysLit_of (ks := HC.l_SIZES.map (·.1)) rfl)
    (case ds_SIZES => rfl)
    (case dt_SIZES => exact HC.ent_of rfl)
    (case i_MOST_ROW => k_is)
    (case i_MOST_MARKS => k_is)
    (case i_WIDEST => k_is)
    (case ta_HEATS => k_is)
    (case tl_HEATS => k_is)
    (case tz_HEATS => decide)
    (case tv_HEATS => repeat (first | exact .nil | refine .cons ⟨_, rfl⟩ ?_))
