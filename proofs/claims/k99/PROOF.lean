import PyProof.Rows.All
import Wide.All
import OpenK.AllK
import Wide.FinOn
import HandS.ForMost
import HandS.Exc
import HandS.ExcOwn
import HandS.WordsExc
import KE.KDictKeyed
import HandS.Lambda
import HandS.HeadHook1
import HandS.Wide
import HandS.TupAny
import HandS.TupMul
import HandS.Deep
import HandS.IsInst
import HandS.Conv
import KE.SortData
import KE.DataCmp
import HandS.Style
import HandS.Strs
import HandS.Walk
import HandS.Zip
import KE.GoesEnum
import HandS.TupLen
import HandS.Dict
import HandS.Iter
import KE.KDictDisplayH
import KE.KDictWalk
import HandS.DictComp
import HandS.Star
import KE.KEqNest
import HandS.ExcInit
import HandS.TryMany
import PyProof.ReprRoads
import HandS.ExcField
import HandS.Defaults
import HandS.HeadHook4
import HandS.HeadWalk
import HandS.HeadNt
import HandS.Ends
import HandS.More
import HandS.Words
import HandS.Head0
import HandS.Head1
import HandS.Head2
import HandS.HeadEnd
import HandS.HeadHook2
import PySem.Challenge.RW_roomwide_k99_refusals_of_slides
set_option Elab.async false
set_option linter.all false
set_option maxRecDepth 100000
set_option maxHeartbeats 1000000
/-! Iv, the core: data in slots by value; what a slot, a result, an environment stands for in the abstract heap. -/
namespace Iv
open PySem L2

abbrev D := PyData
/-- data, or a container by its content -/
inductive A where
  | d (x : D) | l (xs : List D) | m (kvs : List (D × D))
def A.isC : A → Bool
  | .d _ => false
  | _ => true
/-- as data that is read -/
def A.rd : A → D
  | .d x => x
  | .l xs => .list xs
  | .m kvs => .dict kvs
/-- own: made in this def (else lent by the caller) -/
structure Fl where
  own : Bool
inductive Sl where
  | un | c (f : Fl) (x : A) | fn (x : Str)
abbrev Env := List Sl
inductive R where
  | a (x : A) | sl (i : Nat)
structure Exc where
  cls : Str
  arg : Option D
abbrev Res (α : Type) := Option (Except Exc (α × Env))
abbrev M (α : Type) := Env → Res α
def bnd {α β : Type} (x : Res α) (f : α → M β) : Res β := match x with
  | none => none
  | some (.error e) => some (.error e)
  | some (.ok (a, Γ)) => f a Γ
def slA (Γ : Env) (i : Nat) : Option A := match Γ[i]? with
  | some (.c _ x) => some x
  | _ => none
/-- the content of a result -/
def cont (Γ : Env) : R → Option D
  | .a x => some x.rd
  | .sl i => (slA Γ i).map A.rd

/-! ### keys -/
def keyD : Key → D
  | .inl i => .int i
  | .inr x => .str x
mutual
def keyN : D → Option NestedKey
  | .none => some .none
  | .bool b => some (.num (if b = true then 1 else 0))
  | .int i => some (.num i)
  | .str x => some (.text x)
  | .tuple xs => (keyNs xs).map .tup
  | .list _ => none
  | .dict _ => none
def keyNs : List D → Option (List NestedKey)
  | [] => some []
  | x :: xs => match keyN x, keyNs xs with
    | some k, some ks => some (k :: ks)
    | _, _ => none
end
/-- a key that is a tuple, not too deep -/
def keyT (x : D) : Option NestedKey := match x with
  | .tuple _ => match keyN x with
    | some k => if k.depth ≤ 8 then some k else none
    | none => none
  | _ => none

/-! ### what stands for data -/
section
variable (P : Program) (w : World) (K : PySem.W.Frag)
/-- a dict's object with tuple keys, by its entries -/
def TD (a : Addr) (xs : List (NestedKey × Addr × Value)) : Heap → Prop := fun h => (a == sysModules) = false ∧ xs.length ≤ sizeLine ∧ (xs.map fun x => x.1).Nodup ∧
  ∃ o es ep, h.get? a = some o ∧ o.ExactDict ∧ o.data = .dict es ep ∧ es.toList = xs.map (entryOfKey (nestedKind P w))
variable (H : Hp)
mutual
inductive PR : V → D → Prop
  | non : PR .non .none
  | bl (b : Bool) : PR (.bl b) (.bool b)
  | int (i : Int) : PR (.int i) (.int i)
  | str (x : Str) : PR (.str x) (.str x)
  | tup {a : Addr} {vs : List V} {ds : List D} : SqT K H a vs → PRs vs ds → PR (.ref a) (.tuple ds)
  | lst {a : Addr} {o : Obj} {vs : List V} {ds : List D} : H a = some (.frz o (.lst vs)) → PRs vs ds → PR (.ref a) (.list ds)
  | dk {a : Addr} {o : Obj} {ks : List (Key × V)} {ds : List (D × D)} : H a = some (.frz o (.dK ks)) → PRk ks ds → PR (.ref a) (.dict ds)
  | dt {a : Addr} {o : Obj} {xs : List (NestedKey × Addr × Value)} {ds : List (D × D)} : H a = some (.frz o (.ext (TD P w a xs))) → PRt xs ds → PR (.ref a) (.dict ds)
inductive PRs : List V → List D → Prop
  | nil : PRs [] []
  | cons {v : V} {vs : List V} {d : D} {ds : List D} : PR v d → PRs vs ds → PRs (v :: vs) (d :: ds)
inductive PRk : List (Key × V) → List (D × D) → Prop
  | nil : PRk [] []
  | cons {k : Key} {v : V} {d : D} {ks : List (Key × V)} {ds : List (D × D)} : PR v d → PRk ks ds → PRk ((k, v) :: ks) ((keyD k, d) :: ds)
inductive PRt : List (NestedKey × Addr × Value) → List (D × D) → Prop
  | nil : PRt [] []
  | cons {k : NestedKey} {q : Addr} {u : Value} {v : V} {x d : D} {xs : List (NestedKey × Addr × Value)} {ds : List (D × D)} : PR (.ref q) x → keyT x = some k → RelV v u → PR v d → PRt xs ds → PRt ((k, q, u) :: xs) ((x, d) :: ds)
end
/-- a dict's content, at an address whose object is u -/
inductive DU (a : Addr) : HO → List (D × D) → Prop
  | k {ks : List (Key × V)} {ds : List (D × D)} : PRk P w K H ks ds → DU a (.dK ks) ds
  | t {xs : List (NestedKey × Addr × Value)} {ds : List (D × D)} : xs ≠ [] → PRt P w K H xs ds → DU a (.ext (TD P w a xs)) ds
def ARep (v : V) : A → Prop
  | .d x => PR P w K H v x
  | .l xs => ∃ a vs, v = .ref a ∧ H a = some (.lst vs) ∧ PRs P w K H vs xs
  | .m kvs => ∃ a u, v = .ref a ∧ H a = some u ∧ DU P w K H a u kvs
def RRd (v : V) (d : D) : Prop := ∃ x : A, ARep P w K H v x ∧ x.rd = d
end

/-- what never changes is as it was -/
structure Pers (H H' : Hp) : Prop where
  tup : ∀ a xs, H a = some (.tup xs) → H' a = some (.tup xs)
  frz : ∀ a o u, H a = some (.frz o u) → H' a = some (.frz o u)
theorem Pers.refl (H : Hp) : Pers H H := ⟨fun _ _ h => h, fun _ _ _ h => h⟩
theorem Pers.trans {H H1 H2 : Hp} (a : Pers H H1) (b : Pers H1 H2) : Pers H H2 := ⟨fun c xs h => b.tup c xs (a.tup c xs h), fun c o u h => b.frz c o u (a.frz c o u h)⟩
theorem Pers.same {H H' : Hp} (h : Same H H') : Pers H H' := ⟨fun a xs e => h a _ e, fun a o u e => h a _ e⟩
theorem Pers.sqT {K : PySem.W.Frag} {H H' : Hp} (p : Pers H H') {a : Addr} {xs : List V} (h : SqT K H a xs) : SqT K H' a xs := by
  rcases h with (h | ⟨o, h⟩) | h
  · exact .inl (.inl (p.tup _ _ h))
  · exact .inl (.inr ⟨o, p.frz _ _ _ h⟩)
  · exact .inr h
section
variable {P : Program} {w : World} {K : PySem.W.Frag} {H H' : Hp}
mutual
theorem PR.mono (p : Pers H H') : ∀ {v : V} {d : D}, PR P w K H v d → PR P w K H' v d
  | _, _, .non => .non
  | _, _, .bl b => .bl b
  | _, _, .int i => .int i
  | _, _, .str x => .str x
  | _, _, .tup h r => .tup (p.sqT h) (PRs.mono p r)
  | _, _, .lst h r => .lst (p.frz _ _ _ h) (PRs.mono p r)
  | _, _, .dk h r => .dk (p.frz _ _ _ h) (PRk.mono p r)
  | _, _, .dt h r => .dt (p.frz _ _ _ h) (PRt.mono p r)
theorem PRs.mono (p : Pers H H') : ∀ {v : List V} {d : List D}, PRs P w K H v d → PRs P w K H' v d
  | _, _, .nil => .nil
  | _, _, .cons h r => .cons (PR.mono p h) (PRs.mono p r)
theorem PRk.mono (p : Pers H H') : ∀ {v : List (Key × V)} {d : List (D × D)}, PRk P w K H v d → PRk P w K H' v d
  | _, _, .nil => .nil
  | _, _, .cons h r => .cons (PR.mono p h) (PRk.mono p r)
theorem PRt.mono (p : Pers H H') : ∀ {v : List (NestedKey × Addr × Value)} {d : List (D × D)}, PRt P w K H v d → PRt P w K H' v d
  | _, _, .nil => .nil
  | _, _, .cons h e q h2 r => .cons (PR.mono p h) e q (PR.mono p h2) (PRt.mono p r)
end
theorem DU.mono (p : Pers H H') {a : Addr} {u : HO} {ds : List (D × D)} (h : DU P w K H a u ds) : DU P w K H' a u ds := by
  cases h with
  | k r => exact .k (r.mono p)
  | t n r => exact .t n (r.mono p)
theorem PRs.length {vs : List V} {ds : List D} : PRs P w K H vs ds → vs.length = ds.length := by
  intro h
  induction vs generalizing ds with
  | nil => cases h; rfl
  | cons v r ih => cases h with | cons _ t => simp [ih t]
/-- a container's rep, its object kept -/
theorem ARep.keep (p : Pers H H') {v : V} {x : A} (h : ARep P w K H v x) (k : ∀ a u, v = .ref a → H a = some u → H' a = some u) : ARep P w K H' v x := by
  cases x with
  | d x => exact PR.mono p h
  | l xs => obtain ⟨a, vs, rfl, e, r⟩ := h; exact ⟨a, vs, rfl, k a _ rfl e, r.mono p⟩
  | m kvs => obtain ⟨a, u, rfl, e, r⟩ := h; exact ⟨a, u, rfl, k a _ rfl e, r.mono p⟩
theorem ARep.same (s : Same H H') {v : V} {x : A} (h : ARep P w K H v x) : ARep P w K H' v x := h.keep (Pers.same s) fun a u _ e => s a u e
theorem RRd.same (s : Same H H') {v : V} {d : D} (h : RRd P w K H v d) : RRd P w K H' v d := let ⟨x, r, e⟩ := h; ⟨x, r.same s, e⟩
theorem RRd.of {v : V} {d : D} (h : PR P w K H v d) : RRd P w K H v d := ⟨.d d, h, rfl⟩
theorem PR.inv_int {v : V} {i : Int} (h : PR P w K H v (.int i)) : v = .int i := by cases h; rfl
theorem PR.inv_bl {v : V} {b : Bool} (h : PR P w K H v (.bool b)) : v = .bl b := by cases h; rfl
theorem PR.inv_str {v : V} {x : Str} (h : PR P w K H v (.str x)) : v = .str x := by cases h; rfl
theorem PR.inv_non {v : V} (h : PR P w K H v .none) : v = .non := by cases h; rfl
theorem PR.inv_tup {v : V} {ds : List D} (h : PR P w K H v (.tuple ds)) : ∃ a vs, v = .ref a ∧ SqT K H a vs ∧ PRs P w K H vs ds := by cases h with | tup h r => exact ⟨_, _, rfl, h, r⟩
theorem RRd.pr {v : V} {d : D} (h : RRd P w K H v d) (n : ∀ xs, d ≠ .list xs) (m : ∀ xs, d ≠ .dict xs) : PR P w K H v d := by
  obtain ⟨x, r, rfl⟩ := h
  cases x with
  | d x => exact r
  | l xs => exact absurd rfl (n xs)
  | m xs => exact absurd rfl (m xs)
theorem RRd.int {v : V} {i : Int} (h : RRd P w K H v (.int i)) : v = .int i := (h.pr (fun _ z => nomatch z) (fun _ z => nomatch z)).inv_int
theorem RRd.bl {v : V} {i : Bool} (h : RRd P w K H v (.bool i)) : v = .bl i := (h.pr (fun _ z => nomatch z) (fun _ z => nomatch z)).inv_bl
theorem RRd.str {v : V} {i : Str} (h : RRd P w K H v (.str i)) : v = .str i := (h.pr (fun _ z => nomatch z) (fun _ z => nomatch z)).inv_str
theorem RRd.non {v : V} (h : RRd P w K H v .none) : v = .non := (h.pr (fun _ z => nomatch z) (fun _ z => nomatch z)).inv_non
theorem RRd.tup {v : V} {ds : List D} (h : RRd P w K H v (.tuple ds)) : ∃ a vs, v = .ref a ∧ SqT K H a vs ∧ PRs P w K H vs ds := (h.pr (fun _ z => nomatch z) (fun _ z => nomatch z)).inv_tup
theorem RRd.lst {v : V} {ds : List D} (h : RRd P w K H v (.list ds)) : ∃ a vs, v = .ref a ∧ SqL K H a vs ∧ PRs P w K H vs ds := by
  obtain ⟨x, r, e⟩ := h
  cases x with
  | d x => cases e; cases r with | lst h r => exact ⟨_, _, rfl, .inl (.inr ⟨_, h⟩), r⟩
  | l xs => cases e; obtain ⟨a, vs, rfl, h, r⟩ := r; exact ⟨a, vs, rfl, .inl (.inl h), r⟩
  | m xs => cases e
end

/-! ### tables of code objects -/
/-- b is no table of Tb's -/
def nT (Tb : List (Addr × Str)) (b : Addr) : Prop := ∀ q, (b, q) ∉ Tb
/-- a container's object -/
inductive Cont (P : Program) (w : World) (a : Addr) : HO → Prop
  | lst (vs : List V) : Cont P w a (.lst vs)
  | dK (ks : List (Key × V)) : Cont P w a (.dK ks)
  | ext (xs : List (NestedKey × Addr × Value)) : Cont P w a (.ext (TD P w a xs))
theorem td_code {P : Program} {w : World} {a : Addr} {xs : List (NestedKey × Addr × Value)} {c : Addr} {q : Str} : HO.ext (TD P w a xs) ≠ LamX.CodeO c q := by
  intro z
  unfold LamX.CodeO at z
  have z := HO.ext.inj z
  -- a heap with one object, a record at c
  have h1 : ∀ h : Heap, (∃ (oc : Obj) (vs : Array Value) (t : Tok), h.get? c = some oc ∧ oc.data = .fields vs ∧ vs[1]? = some (.str q t)) → TD P w a xs h := fun h k => by rw [z]; exact k
  let ob : Obj := { cls := .none, data := .fields #[.none, .str q 0] }
  let hp : Heap := { objs := Array.replicate (max a c + 1) ob }
  have hg : ∀ b : Addr, b ≤ max a c → hp.get? b = some ob := fun b hb => by
    have e : hp.objs[b]? = some ob := by
      show (Array.replicate (max a c + 1) ob)[b]? = some ob
      rw [Array.getElem?_replicate, if_pos (Nat.lt_succ_of_le hb)]
    unfold Heap.get?
    rw [e]
  obtain ⟨_, _, _, o, es, ep, e1, _, e2, _⟩ := h1 hp ⟨ob, _, 0, hg c (Nat.le_max_right _ _), rfl, rfl⟩
  rw [hg a (Nat.le_max_left _ _)] at e1
  cases e1
  cases e2
theorem Cont.ncode {P : Program} {w : World} {a c : Addr} {q : Str} {u : HO} (h : Cont P w a u) : u ≠ LamX.CodeO c q := by
  cases h with
  | lst vs => exact fun z => by unfold LamX.CodeO at z; cases z
  | dK ks => exact fun z => by unfold LamX.CodeO at z; cases z
  | ext xs => exact td_code
theorem Cont.ntbl {P : Program} {w : World} {a : Addr} {ps : Array Value} {u : HO} (h : Cont P w a u) : u ≠ .tbl ps := by cases h <;> exact fun z => nomatch z
/-- a container's object is written: the tables stand -/
theorem tabs_upd {P : Program} {w : World} {Tb : List (Addr × Str)} {H : Hp} {a : Addr} {u u' : HO} (t : LamX.Tabs Tb H) (h : H a = some u) (hc : Cont P w a u) : LamX.Tabs Tb (upd H a u') := fun p hp => by
  obtain ⟨ps, e1, e2, e3⟩ := t p hp
  refine ⟨ps, ?_, e2, fun pos cv k => ?_⟩
  · rw [upd_ne (show p.1 ≠ a from fun z => by rw [z, h] at e1; exact hc.ntbl (Option.some.inj e1))]
    exact e1
  · obtain ⟨c, e4, e5⟩ := e3 pos cv k
    refine ⟨c, e4, ?_⟩
    rw [upd_ne (show c ≠ a from fun z => by rw [z, h] at e5; exact hc.ncode (Option.some.inj e5))]
    exact e5

/-! ### environments -/
/-- a def's entry: the abstract heap there, the borrowed containers' addresses by slot -/
structure Ctx (Tb : List (Addr × Str)) where
  H0 : Hp
  ba : Nat → Option Addr
def CAt (Γ : Env) (σ : St) (i : Nat) (a : Addr) : Prop := ∃ f x, Γ[i]? = some (.c f x) ∧ x.isC = true ∧ σ[i]? = some (some (.ref a))
section
variable (P : Program) (w : World) (K : PySem.W.Frag)
structure SRel {Tb : List (Addr × Str)} (c : Ctx Tb) (Γ : Env) (σ : St) (H : Hp) : Prop where
  len : Γ.length = σ.length
  rep : ∀ (i : Nat) (f : Fl) (x : A), Γ[i]? = some (.c f x) → ∃ v, σ[i]? = some (some v) ∧ ARep P w K H v x
  apart : ∀ i j a, CAt Γ σ i a → CAt Γ σ j a → i = j
  frame : ∀ b o, c.H0 b = some o → nT Tb b → (∀ i, c.ba i ≠ some b) → H b = some o
  tabs : LamX.Tabs Tb H
  there : ∀ i b, c.ba i = some b → H b ≠ none
  own : ∀ (i : Nat) (a : Addr) (f : Fl) (x : A), Γ[i]? = some (.c f x) → x.isC = true → σ[i]? = some (some (.ref a)) → f.own = true → c.H0 a = none
  bor : ∀ (i : Nat) (a : Addr) (f : Fl) (x : A), Γ[i]? = some (.c f x) → x.isC = true → σ[i]? = some (some (.ref a)) → f.own = false → c.ba i = some a
  fns : ∀ (i : Nat) (n : Str), Γ[i]? = some (.fn n) → σ[i]? = some (some (.ref (He.ga K n)))
end
section
variable {P : Program} {w : World} {K : PySem.W.Frag} {Tb : List (Addr × Str)} {c : Ctx Tb} {Γ Γ' Γ1 Γ2 : Env} {σ : St} {H H' H1 H2 : Hp}
/-- a container stands at a slot's address -/
theorem ARep.cont {v : V} {x : A} (r : ARep P w K H v x) (hx : x.isC = true) : ∃ p u, v = .ref p ∧ H p = some u ∧ Cont P w p u := by
  cases x with
  | d x => cases hx
  | l xs => obtain ⟨a, vs, rfl, h, _⟩ := r; exact ⟨a, _, rfl, h, .lst _⟩
  | m kvs =>
    obtain ⟨a, u, rfl, h, r⟩ := r
    refine ⟨a, _, rfl, h, ?_⟩
    cases r with
    | k r => exact .dK _
    | t n r => exact .ext _
theorem SRel.cat (S : SRel P w K c Γ σ H) {i : Nat} {a : Addr} (h : CAt Γ σ i a) : ∃ u, H a = some u ∧ Cont P w a u := by
  obtain ⟨f, x, e, hc, ev⟩ := h
  obtain ⟨v, e1, r⟩ := S.rep i f x e
  rw [ev] at e1
  cases e1
  obtain ⟨p, u, e, h⟩ := r.cont hc
  cases e
  exact ⟨u, h⟩
theorem nT_of {T : List (Addr × Str)} {a : Addr} {u : HO} (t : LamX.Tabs T H) (h : H a = some u) (n : ∀ ps, u ≠ .tbl ps) : nT T a := fun q hq => by
  obtain ⟨ps, e, _⟩ := t _ hq
  have e : H a = some (.tbl ps) := e
  rw [h] at e
  exact n ps (Option.some.inj e)
theorem nT_fresh {T : List (Addr × Str)} {a : Addr} (t : LamX.Tabs T H) (h : H a = none) : nT T a := fun q hq => by
  obtain ⟨ps, e, _⟩ := t _ hq
  have e : H a = some (.tbl ps) := e
  rw [h] at e
  cases e
theorem SRel.nTc (S : SRel P w K c Γ σ H) {i : Nat} {a : Addr} (h : CAt Γ σ i a) : nT Tb a := let ⟨_, e, hc⟩ := S.cat h; nT_of S.tabs e fun _ => hc.ntbl
/-- from one state of a def's body to a later one, the slots as they were (some containers may be frozen) -/
structure Stp (P : Program) (w : World) (K : PySem.W.Frag) {Tb : List (Addr × Str)} (c : Ctx Tb) (Γ : Env) (σ : St) (H : Hp) (Γ' : Env) (H' : Hp) : Prop where
  rel : SRel P w K c Γ' σ H'
  keep : ∀ b o, H b = some o → nT Tb b → (∀ i, ¬ CAt Γ σ i b) → H' b = some o
  pers : Pers H H'
  back : ∀ p, H' p = none → H p = none
  shp : ∀ i a, CAt Γ' σ i a → CAt Γ σ i a
  defd : ∀ (i : Nat) (f : Fl) (x : A), Γ[i]? = some (.c f x) → ∃ f' x', Γ'[i]? = some (.c f' x')
theorem Stp.refl (S : SRel P w K c Γ σ H) : Stp P w K c Γ σ H Γ H := ⟨S, fun _ _ h _ _ => h, Pers.refl H, fun _ h => h, fun _ _ h => h, fun _ f x h => ⟨f, x, h⟩⟩
theorem Stp.trans (a : Stp P w K c Γ σ H Γ1 H1) (b : Stp P w K c Γ1 σ H1 Γ2 H2) : Stp P w K c Γ σ H Γ2 H2 :=
  ⟨b.rel, fun x o h t n => b.keep x o (a.keep x o h t n) t fun i q => n i (a.shp i x q), a.pers.trans b.pers, fun p h => a.back p (b.back p h), fun i x h => a.shp i x (b.shp i x h), fun i f x h => let ⟨f', x', h'⟩ := a.defd i f x h; b.defd i f' x' h'⟩
theorem SRel.fresh (S : SRel P w K c Γ σ H) {p : Addr} (h : H p = none) : c.H0 p = none := by
  cases e : c.H0 p with
  | none => rfl
  | some o =>
    by_cases q : ∃ i, c.ba i = some p
    · obtain ⟨i, q⟩ := q
      exact absurd h (S.there i p q)
    · by_cases t : nT Tb p
      · have := S.frame p o e t fun i z => q ⟨i, z⟩
        rw [h] at this
        cases this
      · exfalso
        refine t fun q' hq => ?_
        obtain ⟨ps, e1, _⟩ := S.tabs _ hq
        rw [h] at e1
        cases e1
theorem SRel.cne (S : SRel P w K c Γ σ H) {p : Addr} (h : H p = none) {i : Nat} : ¬ CAt Γ σ i p := fun q => by
  obtain ⟨u, z, _⟩ := S.cat q
  rw [h] at z
  cases z
/-- new objects alone -/
theorem SRel.same (S : SRel P w K c Γ σ H) (s : Same H H') : SRel P w K c Γ σ H' :=
  ⟨S.len, fun i f x e => let ⟨v, e1, r⟩ := S.rep i f x e; ⟨v, e1, r.same s⟩, S.apart, fun b o h t n => s b o (S.frame b o h t n), S.tabs.ext s, fun i b h z => (by
    cases e : H b with
    | none => exact S.there i b h e
    | some o => rw [s b o e] at z; cases z), S.own, S.bor, S.fns⟩
theorem Stp.same (S : SRel P w K c Γ σ H) (s : Same H H') : Stp P w K c Γ σ H Γ H' := ⟨S.same s, fun b o h _ _ => s b o h, Pers.same s, fun p h => s.free h, fun _ _ h => h, fun _ f x h => ⟨f, x, h⟩⟩
end
/-- what a result stands for: data that stays; a new container, nobody's; a slot's container -/
def RRep (P : Program) (w : World) (K : PySem.W.Frag) {Tb : List (Addr × Str)} (c : Ctx Tb) (Γ' : Env) (σ : St) (H H' : Hp) (v : V) : R → Prop
  | .a x => ARep P w K H' v x ∧ (x.isC = true → ∃ p, v = .ref p ∧ H p = none ∧ ∀ i, ¬ CAt Γ' σ i p)
  | .sl i => σ[i]? = some (some v) ∧ ∃ f x, Γ'[i]? = some (.c f x)
/-- an exception that leaves -/
def XRep (P : Program) (w : World) (K : PySem.W.Frag) (x : Exc) (cls : Value) (d : Option Addr) (H : Hp) : Prop := cls = .ref (He.ga K x.cls) ∧ match x.arg with
  | none => True
  | some dv => ∃ dd fs v, d = some dd ∧ H dd = some (.xd fs) ∧ fs.lookup ("number" : Str) = some v ∧ PR P w K H v dv
def XPost (P : Program) (w : World) (K : PySem.W.Frag) {Tb : List (Addr × Str)} (c : Ctx Tb) (x : Exc) (E : XK) : Prop := ∀ cls d H', (∀ b o, c.H0 b = some o → nT Tb b → (∀ i, c.ba i ≠ some b) → H' b = some o) → LamX.Tabs Tb H' → XRep P w K x cls d H' → E cls d H'
/-- what is wanted behind a run -/
def Aft {α : Type} (x : Res α) (Ex : Exc → Prop) (Q : α → Env → Prop) : Prop := match x with
  | none => False
  | some (.error e) => Ex e
  | some (.ok (a, Γ)) => Q a Γ
theorem Aft_bnd {α β : Type} {x : Res α} {f : α → M β} {Ex : Exc → Prop} {Q : β → Env → Prop} : Aft (bnd x f) Ex Q ↔ Aft x Ex fun a Γ => Aft (f a Γ) Ex Q := by
  cases x with
  | none => exact .rfl
  | some r => cases r with
    | error e => exact .rfl
    | ok p => exact .rfl
theorem Aft.imp {α : Type} {x : Res α} {Ex : Exc → Prop} {Q Q' : α → Env → Prop} (h : Aft x Ex Q) (k : ∀ a Γ, x = some (.ok (a, Γ)) → Q a Γ → Q' a Γ) : Aft x Ex Q' := by
  cases x with
  | none => exact h
  | some r => cases r with
    | error e => exact h
    | ok p => exact k _ _ rfl h
/-- an expression's reading, by what it tells of the environment -/
def tE (P : Program) (w : World) (K : PySem.W.Frag) (Tb : List (Addr × Str)) (f : M R) (E : XK) : TE := fun σ H Q => ∃ (c : Ctx Tb) (Γ : Env), SRel P w K c Γ σ H ∧
  Aft (f Γ) (fun x => XPost P w K c x E) fun r Γ' => ∀ v H', Stp P w K c Γ σ H Γ' H' → RRep P w K c Γ' σ H H' v r → Q v H'
theorem PE.weak {X : Cx} {e : Expr} {t t' : TE} (h : PE X e t) (w : ∀ σ H Q, t' σ H Q → t σ H Q) : PE X e t' := ⟨fun pins s σ H Q I q => h.run pins s σ H Q I (w σ H Q q)⟩
theorem PT.weak {X : Cx} {e : Expr} {t t' : TT} (h : PT X e t) (w : ∀ σ H Q, t' σ H Q → t σ H Q) : PT X e t' := ⟨fun pins s σ H Q I q => h.run pins s σ H Q I (w σ H Q q)⟩
theorem PS.weak {X : Cx} {e : Stmt} {t t' : TS} (h : PS X e t) (w : ∀ D σ H, t' D σ H → t D σ H) : PS X e t' := ⟨fun pins s σ H D I q => h.run pins s σ H D I (w D σ H q)⟩

/-! ### freezing: a container that nobody changes any more -/
def frzable : HO → Bool
  | .lst _ => true
  | .dK _ => true
  | .ext _ => true
  | _ => false
theorem Inv.freeze {X : Cx} {pins : List (Addr × Obj)} {σ : St} {H : Hp} {s : Shared} {a : Addr} {u : HO} (I : Inv X pins σ H s) (h : H a = some u) (f : frzable u = true) : ∃ o, Inv X pins σ (upd H a (.frz o u)) s := by
  have ok := I.hok a u h
  obtain ⟨o, ho⟩ : ∃ o, s.heap.get? a = some o := by
    cases u with
    | lst xs => obtain ⟨_, its, n, _, e⟩ := ok; exact ⟨_, e⟩
    | dK ks => obtain ⟨_, _, vs, _, o, es, ep, e, _⟩ := ok; exact ⟨_, e⟩
    | ext φ => obtain ⟨_, ⟨o, e⟩, _⟩ := ok; exact ⟨_, e⟩
    | _ => cases f
  refine ⟨o, ?_⟩
  have nt : ∀ b xs, H b = some (.tup xs) → b ≠ a := fun b xs q z => by subst z; rw [h] at q; cases q; cases f
  have nf : ∀ b o' u', H b = some (.frz o' u') → b ≠ a := fun b o' u' q z => by subst z; rw [h] at q; cases q; cases f
  have no : ∀ b y, H b = some (.own y) → b ≠ a := fun b y q z => by subst z; rw [h] at q; cases q; cases f
  have nb : ∀ b ps, H b = some (.tbl ps) → b ≠ a := fun b ps q z => by subst z; rw [h] at q; cases q; cases f
  have nn : ∀ b, H b = none → b ≠ a := fun b q z => by subst z; rw [h] at q; cases q
  have hok : HOk X.prog X.w (upd H a (.frz o u)) s.heap := fun b v q => by
    by_cases hb : b = a
    · subst hb
      rw [upd_same] at q
      cases q
      exact ⟨ho, ok.stay (fun _ _ _ z => z) (fun b' q' => by rw [upd_ne (no b' _ q')]; exact q') fun b' xs q' => by rw [upd_ne (nt b' xs q')]; exact q'⟩
    · rw [upd_ne hb] at q
      exact (I.hok b v q).stay (fun _ _ _ z => z) (fun b' q' => by rw [upd_ne (no b' _ q')]; exact q') fun b' xs q' => by rw [upd_ne (nt b' xs q')]; exact q'
  exact I.un (h' := s.heap) (t' := s.toks) ⟨fun _ _ q _ _ _ => q, fun b o q _ _ _ => ⟨o.slots, q⟩, fun b _ _ n _ => by rw [upd_ne (nn b n)]; exact n, fun b o q _ => ⟨o, q⟩,
    fun b xs q => by rw [upd_ne (nt b xs q)]; exact q, fun b o' u' q => by rw [upd_ne (nf b o' u' q)]; exact q, fun b ps q => ⟨#[], by rw [upd_ne (nb b ps q), q]; simp⟩⟩ hok
/-- behind an expression its value may be frozen -/
def tFz (t : TE) : TE := fun σ H Q => t σ H fun v H1 => Q v H1 ∨ ∃ a u, v = .ref a ∧ H1 a = some u ∧ frzable u = true ∧ ∀ o, Q v (upd H1 a (.frz o u))
theorem pe_fz {X : Cx} {e : Expr} {t : TE} (h : PE X e t) : PE X e (tFz t) := ⟨fun pins s σ H Q I q => by
  refine thn (h.run pins s σ H _ I q) fun u s1 ⟨v, H1, I1, r, z⟩ => ?_
  rcases z with z | ⟨a, u', rfl, h1, f, z⟩
  · exact ⟨v, H1, I1, r, z⟩
  · obtain ⟨o, I2⟩ := Inv.freeze I1 h1 f
    exact ⟨.ref a, _, I2, r, z o⟩⟩
def R.fz : R → R
  | .a x => .a (.d x.rd)
  | .sl i => .sl i
/-- frozen, where it is new -/
def fz (f : M R) : M R := fun Γ => bnd (f Γ) fun r Γ => some (.ok (r.fz, Γ))
section
variable {P : Program} {w : World} {K : PySem.W.Frag} {Tb : List (Addr × Str)} {c : Ctx Tb} {Γ Γ' Γ1 Γ2 : Env} {σ : St} {H H' H1 H2 : Hp}
/-- an object of nobody's is frozen -/
theorem SRel.froz (S : SRel P w K c Γ σ H) {p : Addr} {o : Obj} {u : HO} (h : H p = some u) (fu : frzable u = true) (fc : Cont P w p u) (h0 : c.H0 p = none) (n : ∀ i, ¬ CAt Γ σ i p) : SRel P w K c Γ σ (upd H p (.frz o u)) := by
  have pe : Pers H (upd H p (.frz o u)) := by
    refine ⟨fun b xs q => ?_, fun b o' u' q => ?_⟩
    all_goals
      have : b ≠ p := fun z => by subst z; rw [h] at q; cases q; cases fu
      rw [upd_ne this]; exact q
  refine ⟨S.len, fun i f x e => ?_, S.apart, fun b o' q t z => ?_, tabs_upd S.tabs h fc, fun i b q z => ?_, S.own, S.bor, S.fns⟩
  · obtain ⟨v, e1, r⟩ := S.rep i f x e
    refine ⟨v, e1, ?_⟩
    cases hx : x.isC with
    | false => cases x with
      | d x => exact PR.mono pe r
      | _ => cases hx
    | true =>
      refine r.keep pe fun a u' ea q => ?_
      subst ea
      have : a ≠ p := fun z => n i ⟨f, x, e, hx, by rw [e1, z]⟩
      rw [upd_ne this]
      exact q
  · have : b ≠ p := fun y => by subst y; rw [h0] at q; cases q
    rw [upd_ne this]
    exact S.frame b o' q t z
  · by_cases y : b = p
    · subst y; rw [upd_same] at z; cases z
    · rw [upd_ne y] at z; exact S.there i b q z
theorem ARep.frozen {p : Addr} {o : Obj} {u : HO} {x : A} (h : H p = some u) (r : ARep P w K H (.ref p) x) (hx : x.isC = true) : frzable u = true ∧ PR P w K (upd H p (.frz o u)) (.ref p) x.rd := by
  have pe : ∀ {u' : HO}, H p = some u' → frzable u' = true → Pers H (upd H p (.frz o u')) := fun {u'} h fu => by
    refine ⟨fun b xs q => ?_, fun b o' u' q => ?_⟩
    all_goals
      have : b ≠ p := fun z => by subst z; rw [h] at q; cases q; cases fu
      rw [upd_ne this]; exact q
  cases x with
  | d x => cases hx
  | l xs =>
    obtain ⟨a, vs, e, h', r⟩ := r
    cases e
    rw [h] at h'
    cases h'
    exact ⟨rfl, .lst upd_same (r.mono (pe h rfl))⟩
  | m kvs =>
    obtain ⟨a, u', e, h', r⟩ := r
    cases e
    rw [h] at h'
    cases h'
    cases r with
    | k r => exact ⟨rfl, .dk upd_same (r.mono (pe h rfl))⟩
    | t n r => exact ⟨rfl, .dt upd_same (r.mono (pe h rfl))⟩
theorem ARep.at_ {v : V} {x : A} (r : ARep P w K H v x) (hx : x.isC = true) : ∃ p u, v = .ref p ∧ H p = some u := by
  cases x with
  | d x => cases hx
  | l xs => obtain ⟨a, vs, rfl, h, _⟩ := r; exact ⟨a, _, rfl, h⟩
  | m kvs => obtain ⟨a, u, rfl, h, _⟩ := r; exact ⟨a, _, rfl, h⟩
end
theorem pe_fzE {X : Cx} {e : Expr} {P : Program} {w : World} {K : PySem.W.Frag} {f : M R} {E : XK} (h : PE X e (tE P w K Tb f E)) : PE X e (tE P w K Tb (fz f) E) := by
  refine PE.weak (pe_fz h) fun σ H Q ⟨c, Γ, S, q⟩ => ⟨c, Γ, S, (Aft_bnd.mp q).imp fun r Γ' _ q v H' T rr => ?_⟩
  have q : ∀ v H', Stp P w K c Γ σ H Γ' H' → RRep P w K c Γ' σ H H' v r.fz → Q v H' := q
  cases r with
  | sl i => exact .inl (q v H' T rr)
  | a x =>
    cases hx : x.isC with
    | false =>
      cases x with
      | d x => exact .inl (q v H' T rr)
      | _ => cases hx
    | true =>
      obtain ⟨r1, r2⟩ := rr
      obtain ⟨p, rfl, hp, np⟩ := r2 hx
      obtain ⟨p', u, e, h1, fc⟩ := r1.cont hx
      cases e
      refine .inr ⟨p, u, rfl, h1, (r1.frozen (o := default) h1 hx).1, fun o => ?_⟩
      obtain ⟨fu, pr⟩ := r1.frozen (o := o) h1 hx
      have ne : ∀ b o', H b = some o' → b ≠ p := fun b o' q' => ne_of_none q' hp
      refine q _ _ ⟨T.rel.froz h1 fu fc (S.fresh hp) np, fun b o' q' t z => ?_, ⟨fun b xs q' => ?_, fun b o' u' q' => ?_⟩, fun b q' => ?_, T.shp, T.defd⟩ ⟨pr, fun z => nomatch z⟩
      · rw [upd_ne (ne b _ q')]; exact T.keep b o' q' t z
      · rw [upd_ne (ne b _ q')]; exact T.pers.tup b xs q'
      · rw [upd_ne (ne b _ q')]; exact T.pers.frz b o' u' q'
      · by_cases y : b = p
        · rw [y]; exact hp
        · rw [upd_ne y] at q'; exact T.back b q'
end Iv
set_option Elab.async false
set_option linter.all false
set_option maxRecDepth 100000
set_option maxHeartbeats 1000000
/-! Iv, expressions: names, constants, argument lists, operations on data, tests. -/
namespace Iv
open PySem L2

section
variable (P : Program) (w : World) (K : PySem.W.Frag)
/-- what stands for a result that is kept a while: data, a slot's container -/
def FRep (Γ : Env) (σ : St) (H : Hp) (v : V) : R → Prop
  | .a x => x.isC = false ∧ ARep P w K H v x
  | .sl i => σ[i]? = some (some v) ∧ ∃ f x, Γ[i]? = some (.c f x)
inductive FReps (Γ : Env) (σ : St) (H : Hp) : List V → List R → Prop
  | nil : FReps Γ σ H [] []
  | cons {v : V} {r : R} {vs : List V} {rs : List R} : FRep P w K Γ σ H v r → FReps Γ σ H vs rs → FReps Γ σ H (v :: vs) (r :: rs)
inductive RRds (H : Hp) : List V → List D → Prop
  | nil : RRds H [] []
  | cons {v : V} {d : D} {vs : List V} {ds : List D} : RRd P w K H v d → RRds H vs ds → RRds H (v :: vs) (d :: ds)
def tA (Tb : List (Addr × Str)) (f : M (List R)) (E : XK) : TA := fun σ H Q => ∃ (c : Ctx Tb) (Γ : Env), SRel P w K c Γ σ H ∧
  Aft (f Γ) (fun x => XPost P w K c x E) fun rs Γ' => ∀ vs H', Stp P w K c Γ σ H Γ' H' → FReps P w K Γ' σ H' vs rs → Q vs H'
/-- a new value: data, or a new container -/
def ANew (H H' : Hp) (v : V) (x : A) : Prop := ARep P w K H' v x ∧ (x.isC = true → ∃ p, v = .ref p ∧ H p = none)
/-- r does op -/
def OpS (r : List V → Hp → VK → Prop) (op : List D → Option A) : Prop := ∀ (H : Hp) (vs : List V) (ds : List D) (z : A) (Q : VK), RRds P w K H vs ds → op ds = some z →
  (∀ v H', Same H H' → ANew P w K H H' v z → Q v H') → r vs H Q
end
def conts (Γ : Env) : List R → Option (List D)
  | [] => some []
  | r :: rs => match cont Γ r, conts Γ rs with
    | some d, some ds => some (d :: ds)
    | _, _ => none
def evVar (i : Nat) : M R := fun Γ => match Γ[i]? with
  | some (.c _ x) => some (.ok (if x.isC then .sl i else .a x, Γ))
  | _ => none
def evCon (d : D) : M R := fun Γ => some (.ok (.a (.d d), Γ))
def evNil : M (List R) := fun Γ => some (.ok ([], Γ))
def evCons (f : M R) (g : M (List R)) : M (List R) := fun Γ => bnd (fz f Γ) fun r Γ => bnd (g Γ) fun rs Γ => some (.ok (r :: rs, Γ))
def evOp (op : List D → Option A) (g : M (List R)) : M R := fun Γ => bnd (g Γ) fun rs Γ => match conts Γ rs with
  | none => none
  | some ds => match op ds with
    | none => none
    | some z => some (.ok (.a z, Γ))
section
variable {P : Program} {w : World} {K : PySem.W.Frag} {Tb : List (Addr × Str)} {c : Ctx Tb} {Γ Γ' Γ1 Γ2 : Env} {σ : St} {H H' H1 H2 : Hp} {E : XK}
theorem FRep.stp (S : SRel P w K c Γ σ H) (T : Stp P w K c Γ σ H Γ' H') {v : V} {r : R} (h : FRep P w K Γ σ H v r) : FRep P w K Γ' σ H' v r := by
  cases r with
  | sl i => obtain ⟨e, f, x, q⟩ := h; exact ⟨e, T.defd i f x q⟩
  | a x =>
    cases x with
    | d x => exact ⟨rfl, PR.mono T.pers h.2⟩
    | _ => cases h.1
theorem FReps.stp (S : SRel P w K c Γ σ H) (T : Stp P w K c Γ σ H Γ' H') {vs : List V} {rs : List R} (h : FReps P w K Γ σ H vs rs) : FReps P w K Γ' σ H' vs rs := by
  induction h with
  | nil => exact .nil
  | cons h _ ih => exact .cons (h.stp S T) ih
theorem FRep.of {v : V} {r : R} (h : RRep P w K c Γ' σ H H' v r.fz) : FRep P w K Γ' σ H' v r.fz := by
  cases r with
  | sl i => exact h
  | a x => exact ⟨rfl, h.1⟩
theorem FRep.rrep {v : V} {r : R} (h : FRep P w K Γ' σ H' v r) : RRep P w K c Γ' σ H H' v r := by
  cases r with
  | sl i => exact h
  | a x => exact ⟨h.2, fun z => absurd h.1 (by rw [z]; decide)⟩
/-- what a kept result reads as -/
theorem FRep.cont (S : SRel P w K c Γ σ H) {v : V} {r : R} {d : D} (h : FRep P w K Γ σ H v r) (e : cont Γ r = some d) : RRd P w K H v d := by
  cases r with
  | a x => simp only [Iv.cont, Option.some.injEq] at e; exact ⟨x, h.2, e⟩
  | sl i =>
    obtain ⟨e2, f, x, e1⟩ := h
    simp only [Iv.cont, slA, e1, Option.map_some, Option.some.injEq] at e
    obtain ⟨v, e3, r⟩ := S.rep i f x e1
    rw [e2] at e3
    cases e3
    exact ⟨x, r, e⟩
theorem FReps.conts (S : SRel P w K c Γ σ H) {vs : List V} {rs : List R} (h : FReps P w K Γ σ H vs rs) : ∀ {ds : List D}, conts Γ rs = some ds → RRds P w K H vs ds := by
  induction h with
  | nil => intro ds e; simp only [Iv.conts, Option.some.injEq] at e; subst e; exact .nil
  | @cons v r vs rs h _ ih =>
    intro ds e
    unfold Iv.conts at e
    split at e
    · rename_i d ds' e1 e2
      simp only [Option.some.injEq] at e
      subst e
      exact .cons (h.cont S e1) (ih e2)
    · cases e
/-- behind a step a new value -/
theorem Stp.new (S : SRel P w K c Γ σ H) (T : Stp P w K c Γ σ H Γ1 H1) (s : Same H1 H2) : Stp P w K c Γ σ H Γ1 H2 := T.trans (Stp.same T.rel s)
theorem RRep.new (T : Stp P w K c Γ σ H Γ1 H1) {v : V} {x : A} (n : ANew P w K H1 H2 v x) (hk : ∀ p, H1 p = none → H p = none) : RRep P w K c Γ1 σ H H2 v (.a x) := by
  refine ⟨n.1, fun hx => ?_⟩
  obtain ⟨p, e, h⟩ := n.2 hx
  exact ⟨p, e, hk p h, fun i q => T.rel.cne h q⟩
end

section
variable {X : Cx} {E : XK} {P : Program} {w : World} {K : PySem.W.Frag} {Tb : List (Addr × Str)}
theorem pe_vr {i : Nat} {x : Str} {pos : Pos} (hN : X.N[i]? = some x) (hv : Vis X.env.scope x) (hd : (x == ("__debug__" : Str)) = false) (hcd : (x == ("__classdict__" : Str)) = false) : PE X (.Name x pos) (tE P w K Tb (evVar i) E) := by
  refine PE.weak (pe_var hN hv hd hcd) fun σ H Q ⟨c, Γ, S, q⟩ => ?_
  unfold evVar at q
  cases e : Γ[i]? with
  | none => rw [e] at q; exact q.elim
  | some s =>
    rw [e] at q
    cases s with
    | un => exact q.elim
    | fn => exact q.elim
    | c f x =>
      obtain ⟨v, e1, r⟩ := S.rep i f x e
      refine ⟨v, e1, q v H (Stp.refl S) ?_⟩
      cases hx : x.isC with
      | false => rw [if_neg Bool.false_ne_true]; exact ⟨r, fun z => absurd hx (by rw [z]; decide)⟩
      | true =>
        rw [if_pos rfl]
        exact ⟨e1, f, x, e⟩
def litV : D → Option V
  | .none => some .non
  | .bool b => some (.bl b)
  | .int i => some (.int i)
  | .str x => some (.str x)
  | _ => none
theorem litV_pr {d : D} {v : V} (h : litV d = some v) {H : Hp} : PR P w K H v d := by
  cases d <;> simp only [litV, Option.some.injEq, reduceCtorEq] at h <;> subst h
  · exact .non
  · exact .bl _
  · exact .int _
  · exact .str _
def litC : D → Option Const
  | .none => some .none
  | .bool b => some (.bool b)
  | .int i => some (.int i)
  | .str x => some (.str x)
  | _ => none
theorem pe_con_of {e : Expr} {v : V} {d : D} (h : PE X e (tC v)) (hv : litV d = some v) : PE X e (tE P w K Tb (evCon d) E) :=
  PE.weak h fun σ H Q ⟨c, Γ, S, q⟩ => q v H (Stp.refl S) ⟨litV_pr hv, fun z => nomatch z⟩
theorem pe_lit {d : D} {k : Nat} {pos : Pos} {cc : Const} (h : litC d = some cc) : PE X (.Constant cc k pos) (tE P w K Tb (evCon d) E) := by
  cases d <;> simp only [litC, Option.some.injEq, reduceCtorEq] at h <;> subst h
  · exact pe_con_of pe_non rfl
  · exact pe_con_of pe_bl rfl
  · exact pe_con_of pe_int rfl
  · exact pe_con_of pe_str rfl
theorem PA.weak {X : Cx} {e : List Expr} {t t' : TA} (h : PA X e t) (w : ∀ σ H Q, t' σ H Q → t σ H Q) : PA X e t' := ⟨fun pos pins s σ H Q I q => h.run pos pins s σ H Q I (w σ H Q q)⟩
theorem pa_nl : PA X [] (tA P w K Tb evNil E) := PA.weak pa_nil fun σ H Q ⟨c, Γ, S, q⟩ => q [] H (Stp.refl S) .nil
def nst : Expr → Bool
  | .Starred _ _ => false
  | _ => true
theorem star_cons {e : Expr} {es : List Expr} {env : PySem.Env} (h : nst e = true) : starEach (e :: es) env = (false, eval e env) :: starEach es env := by
  cases e <;> first | rfl | cases h
theorem star_any {env : PySem.Env} {pos : Pos} : ∀ {es : List Expr}, es.all nst = true → (backTo pos (starEach es env)).any (·.1) = false
  | [], _ => rfl
  | e :: es, h => by
    rw [List.all_cons, Bool.and_eq_true] at h
    rw [star_cons h.1]
    show (false || (backTo pos (starEach es env)).any (·.1)) = false
    rw [star_any h.2]
    rfl
theorem pa_cns {e : Expr} {es : List Expr} {f : M R} {g : M (List R)} (ha : PE X e (tE P w K Tb f E)) (hr : PA X es (tA P w K Tb g E)) (hs : nst e = true) : PA X (e :: es) (tA P w K Tb (evCons f g) E) := by
  refine PA.weak (pa_cons (pe_fzE ha) hr (star_cons hs)) fun σ H Q ⟨c, Γ, S, q⟩ => ⟨c, Γ, S, (Aft_bnd.mp q).imp fun r Γ1 er q v H1 T rr => ⟨c, Γ1, T.rel, (Aft_bnd.mp q).imp fun rs Γ2 _ q vs H2 T2 rr2 => ?_⟩⟩
  obtain ⟨r', rfl⟩ : ∃ r', r = R.fz r' := by
    unfold fz bnd at er
    split at er
    · cases er
    · cases er
    · cases er; exact ⟨_, rfl⟩
  exact q (v :: vs) H2 (T.trans T2) (.cons ((FRep.of rr).stp T.rel T2) rr2)
/-- an operation by the rule of a call -/
theorem tOpS {r : List V → Hp → VK → Prop} {op : List D → Option A} (h : OpS P w K r op) {g : M (List R)} {σ : St} {H : Hp} {Q : VK} (q : tE P w K Tb (evOp op g) E σ H Q) : tA P w K Tb g E σ H fun vs H1 => r vs H1 Q := by
  obtain ⟨c, Γ, S, q⟩ := q
  refine ⟨c, Γ, S, (Aft_bnd.mp q).imp fun rs Γ1 _ q vs H1 T fr => ?_⟩
  cases e : conts Γ1 rs with
  | none => simp only [e] at q; exact q.elim
  | some ds =>
    simp only [e] at q
    cases e2 : op ds with
    | none => simp only [e2] at q; exact q.elim
    | some z =>
      simp only [e2] at q
      exact h H1 vs ds z Q (fr.conts T.rel e) e2 fun v H2 s n => q v H2 (Stp.new S T s) (RRep.new T n T.back)
theorem pe_of_args {es : List Expr} {e : Expr} {t : TA} {r : List V → Hp → VK → Prop} {op : List D → Option A} {g : M (List R)} (h : PE X e (fun σ H Q => tA P w K Tb g E σ H fun vs H1 => r vs H1 Q)) (o : OpS P w K r op) : PE X e (tE P w K Tb (evOp op g) E) :=
  PE.weak h fun _ _ _ q => tOpS o q
/-- f(..), a built-in -/
theorem pe_blt {e : Expr} {es : List Expr} {x : Str} {p pos : Pos} {id : String} {r : List V → Hp → VK → Prop} {op : List D → Option A} {g : M (List R)} (hc : CallR X (.builtin id) r) (hg : Gl X x) (hm : X.mg x = none) (hv : bootBuiltins x = some (.builtin id)) (ha : PA X (e :: es) (tA P w K Tb g E))
    (o : OpS P w K r op) (hn : x ≠ "__name__") (hd : (x == ("__debug__" : Str)) = false) (hs : (e :: es).all nst = true) : PE X (.Call (.Name x p) (e :: es) [] pos) (tE P w K Tb (evOp op g) E) :=
  have h2 := Bool.and_eq_true_iff.mp hs
  PE.weak (pe_callB hc hg hm hv ha hn hd (star_cons h2.1) (star_any h2.2)) fun _ _ _ q => tOpS o q
theorem pe_blty {e : Expr} {es : List Expr} {x : Str} {p pos : Pos} {T : String} {r : List V → Hp → VK → Prop} {op : List D → Option A} {g : M (List R)} (hc : CallR X (.type T) r) (hg : Gl X x) (hm : X.mg x = none) (hv : bootBuiltins x = some (.type T)) (ha : PA X (e :: es) (tA P w K Tb g E))
    (o : OpS P w K r op) (hn : x ≠ "__name__") (hd : (x == ("__debug__" : Str)) = false) (hs : (e :: es).all nst = true) : PE X (.Call (.Name x p) (e :: es) [] pos) (tE P w K Tb (evOp op g) E) :=
  have h2 := Bool.and_eq_true_iff.mp hs
  PE.weak (pe_callTy hc hg hm hv ha hn hd (star_cons h2.1) (star_any h2.2)) fun _ _ _ q => tOpS o q
/-- two operands -/
theorem tBin {r : R2} {op : List D → Option A} (h : OpS P w K (fun vs H Q => ∃ x y, vs = [x, y] ∧ r x y H Q) op) {fa fb : M R} {σ : St} {H : Hp} {Q : VK} (q : tE P w K Tb (evOp op (evCons fa (evCons fb evNil))) E σ H Q) :
    tOp r (tE P w K Tb (fz fa) E) (tE P w K Tb (fz fb) E) σ H Q := by
  obtain ⟨c, Γ, S, q⟩ := tOpS h q
  refine ⟨c, Γ, S, (Aft_bnd.mp q).imp fun ra Γ1 ea q x H1 T1 rx => ⟨c, Γ1, T1.rel, ?_⟩⟩
  refine (Aft_bnd.mp (Aft_bnd.mp q)).imp fun rb Γ2 eb q y H2 T2 ry => ?_
  have fz_of : ∀ {f : M R} {Γ Γ' : Env} {r : R}, fz f Γ = some (.ok (r, Γ')) → ∃ r', r = R.fz r' := fun {f Γ Γ' r} er => by
    unfold fz bnd at er
    split at er
    · cases er
    · cases er
    · cases er; exact ⟨_, rfl⟩
  obtain ⟨ra, rfl⟩ := fz_of ea
  obtain ⟨rb, rfl⟩ := fz_of eb
  obtain ⟨x', y', e, q⟩ := q [x, y] H2 (T1.trans T2) (.cons ((FRep.of rx).stp T1.rel T2) (.cons (FRep.of ry) .nil))
  cases e
  exact q
theorem pe_bin {a b : Expr} {o : Operator} {pos : Pos} {r : R2} {op : List D → Option A} {fa fb : M R} (ho : OpR X (binaryOp o) r) (ha : PE X a (tE P w K Tb fa E)) (hb : PE X b (tE P w K Tb fb E)) (h : OpS P w K (fun vs H Q => ∃ x y, vs = [x, y] ∧ r x y H Q) op) :
    PE X (.BinOp a o b pos) (tE P w K Tb (evOp op (evCons fa (evCons fb evNil))) E) :=
  PE.weak (pe_op ho (pe_fzE ha) (pe_fzE hb)) fun _ _ _ q => tBin h q
theorem pe_cmp1 {a b : Expr} {o : CmpOp} {pos : Pos} {r : R2} {op : List D → Option A} {fa fb : M R} (ho : OpR X (compareOp o) r) (ha : PE X a (tE P w K Tb fa E)) (hb : PE X b (tE P w K Tb fb E)) (h : OpS P w K (fun vs H Q => ∃ x y, vs = [x, y] ∧ r x y H Q) op)
    (hm : behindInMarks o b = false) : PE X (.Compare a [o] [b] pos) (tE P w K Tb (evOp op (evCons fa (evCons fb evNil))) E) :=
  PE.weak (pe_cmpR ho (pe_fzE ha) (pe_fzE hb) hm) fun _ _ _ q => tBin h q
theorem pe_ixE {a b : Expr} {pos : Pos} {r : R2} {op : List D → Option A} {fa fb : M R} (ho : IxR X r) (ha : PE X a (tE P w K Tb fa E)) (hb : PE X b (tE P w K Tb fb E)) (h : OpS P w K (fun vs H Q => ∃ x y, vs = [x, y] ∧ r x y H Q) op) (hs : PlainIx b) :
    PE X (.Subscript a b pos) (tE P w K Tb (evOp op (evCons fa (evCons fb evNil))) E) :=
  PE.weak (pe_ix ho (pe_fzE ha) (pe_fzE hb) hs) fun _ _ _ q => tBin h q
end
end Iv
set_option Elab.async false
set_option linter.all false
set_option maxRecDepth 100000
set_option maxHeartbeats 1000000
/-! Iv, operations on data: what the rules of the hand layer do, said of data. -/
namespace Iv
open PySem L2

section
variable {P : Program} {w : World} {K : PySem.W.Frag} {H H' : Hp}
theorem RRds.two {vs : List V} {a b : D} (h : RRds P w K H vs [a, b]) : ∃ x y, vs = [x, y] ∧ RRd P w K H x a ∧ RRd P w K H y b := by
  cases h with | cons h t => cases t with | cons h2 t => cases t; exact ⟨_, _, rfl, h, h2⟩
theorem RRds.one {vs : List V} {a : D} (h : RRds P w K H vs [a]) : ∃ x, vs = [x] ∧ RRd P w K H x a := by
  cases h with | cons h t => cases t; exact ⟨_, rfl, h⟩
theorem RRds.three {vs : List V} {a b c : D} (h : RRds P w K H vs [a, b, c]) : ∃ x y z, vs = [x, y, z] ∧ RRd P w K H x a ∧ RRd P w K H y b ∧ RRd P w K H z c := by
  cases h with | cons h t => cases t with | cons h2 t => cases t with | cons h3 t => cases t; exact ⟨_, _, _, rfl, h, h2, h3⟩
theorem ANew.int (i : Int) : ANew P w K H H (.int i) (.d (.int i)) := ⟨.int i, fun z => nomatch z⟩
theorem ANew.bl (i : Bool) : ANew P w K H H (.bl i) (.d (.bool i)) := ⟨.bl i, fun z => nomatch z⟩
theorem ANew.of {v : V} {d : D} (h : PR P w K H v d) : ANew P w K H H v (.d d) := ⟨h, fun z => nomatch z⟩
theorem same_upd {p : Addr} {o : HO} (h : H p = none) : Same H (upd H p o) := fun b u e => by rw [upd_ne (ne_of_none e h)]; exact e
theorem ANew.tup {p : Addr} {vs : List V} {ds : List D} (h : H p = none) (r : PRs P w K H vs ds) : ANew P w K H (upd H p (.tup vs)) (.ref p) (.d (.tuple ds)) :=
  ⟨.tup (SqT.of upd_same) (r.mono (Pers.same (same_upd h))), fun z => nomatch z⟩
theorem ANew.lst {p : Addr} {vs : List V} {ds : List D} (h : H p = none) (r : PRs P w K H vs ds) : ANew P w K H (upd H p (.lst vs)) (.ref p) (.l ds) :=
  ⟨⟨p, vs, rfl, upd_same, r.mono (Pers.same (same_upd h))⟩, fun _ => ⟨p, rfl, h⟩⟩
theorem PRs.append {vs vs' : List V} {ds ds' : List D} (a : PRs P w K H vs ds) (b : PRs P w K H vs' ds') : PRs P w K H (vs ++ vs') (ds ++ ds') := by
  induction vs generalizing ds with
  | nil => cases a; exact b
  | cons v r ih => cases a with | cons h t => exact .cons h (ih t)
theorem PRs.get {vs : List V} {ds : List D} (a : PRs P w K H vs ds) : ∀ {i : Nat} {d : D}, ds[i]? = some d → ∃ v, vs[i]? = some v ∧ PR P w K H v d := by
  induction vs generalizing ds with
  | nil => cases a; intro i d e; simp at e
  | cons v r ih =>
    cases a with
    | cons h t =>
      intro i d e
      cases i with
      | zero => simp at e; subst e; exact ⟨v, rfl, h⟩
      | succ i => simpa using ih t (by simpa using e)
theorem PRs.getV {vs : List V} {ds : List D} (a : PRs P w K H vs ds) {i : Nat} {v : V} (e : vs[i]? = some v) : ∃ d, ds[i]? = some d ∧ PR P w K H v d := by
  have hi := (List.getElem?_eq_some_iff.mp e).1
  have hl := a.length
  obtain ⟨v', e', r⟩ := a.get (i := i) (d := ds[i]'(by omega)) (List.getElem?_eq_getElem _)
  rw [e] at e'
  cases e'
  exact ⟨_, List.getElem?_eq_getElem _, r⟩
theorem PRs.take {vs : List V} {ds : List D} (a : PRs P w K H vs ds) (n : Nat) : PRs P w K H (vs.take n) (ds.take n) := by
  induction vs generalizing ds n with
  | nil => cases a; simp; exact .nil
  | cons v r ih => cases a with | cons h t => cases n with
    | zero => exact .nil
    | succ n => exact .cons h (ih t n)
theorem PRs.drop {vs : List V} {ds : List D} (a : PRs P w K H vs ds) (n : Nat) : PRs P w K H (vs.drop n) (ds.drop n) := by
  induction vs generalizing ds n with
  | nil => cases a; simp; exact .nil
  | cons v r ih => cases a with | cons h t => cases n with
    | zero => exact .cons h t
    | succ n => exact ih t n
theorem PRs.set {vs : List V} {ds : List D} (a : PRs P w K H vs ds) (n : Nat) {v : V} {d : D} (h : PR P w K H v d) : PRs P w K H (vs.set n v) (ds.set n d) := by
  induction vs generalizing ds n with
  | nil => cases a; simp; exact .nil
  | cons v' r ih => cases a with | cons h' t => cases n with
    | zero => exact .cons h t
    | succ n => exact .cons h' (ih t n)
theorem PRs.dropLast {vs : List V} {ds : List D} (a : PRs P w K H vs ds) : PRs P w K H vs.dropLast ds.dropLast := by
  rw [List.dropLast_eq_take, List.dropLast_eq_take, a.length]
  exact a.take _
theorem PRs.rep {vs : List V} {ds : List D} (a : PRs P w K H vs ds) : ∀ n, PRs P w K H (List.replicate n vs).flatten (List.replicate n ds).flatten
  | 0 => .nil
  | n + 1 => by rw [List.replicate_succ, List.replicate_succ, List.flatten_cons, List.flatten_cons]; exact a.append (PRs.rep a n)
theorem PRs.reverse {vs : List V} {ds : List D} (a : PRs P w K H vs ds) : PRs P w K H vs.reverse ds.reverse := by
  induction vs generalizing ds with
  | nil => cases a; exact .nil
  | cons v r ih => cases a with | cons h t => rw [List.reverse_cons, List.reverse_cons]; exact (ih t).append (.cons h .nil)
theorem PRs.ints {vs : List V} : ∀ {ns : List Int}, PRs P w K H vs (ns.map .int) → vs = ns.map V.int := by
  induction vs with
  | nil => intro ns h; cases ns with
    | nil => rfl
    | cons => cases h
  | cons v r ih => intro ns h; cases ns with
    | nil => cases h
    | cons n ns => cases h with | cons h t => rw [h.inv_int, ih t]; rfl
theorem PRs.ofInts (ns : List Int) : PRs P w K H (ns.map V.int) (ns.map .int) := by
  induction ns with
  | nil => exact .nil
  | cons n r ih => exact .cons (.int n) ih
theorem PRs.bls {vs : List V} : ∀ {ns : List Bool}, PRs P w K H vs (ns.map .bool) → vs = ns.map V.bl := by
  induction vs with
  | nil => intro ns h; cases ns with
    | nil => rfl
    | cons => cases h
  | cons v r ih => intro ns h; cases ns with
    | nil => cases h
    | cons n ns => cases h with | cons h t => rw [h.inv_bl, ih t]; rfl
theorem RRd.rdl {v : V} {ds : List D} (h : RRd P w K H v (.list ds)) : ∃ a vs, v = .ref a ∧ Rd H a (.lst vs) ∧ PRs P w K H vs ds := by
  obtain ⟨x, r, e⟩ := h
  cases x with
  | d x => cases e; cases r with | lst h r => exact ⟨_, _, rfl, .inr ⟨_, h⟩, r⟩
  | l xs => cases e; obtain ⟨a, vs, rfl, h, r⟩ := r; exact ⟨a, vs, rfl, .inl h, r⟩
  | m xs => cases e
mutual
theorem PR.dp {v : V} {d : D} : PR P w K H v d → d.canLay0 = true → Dp K H v d
  | .non, _ => .non
  | .bl b, _ => .bl b
  | .int i, _ => .int i
  | .str x, _ => .str x
  | .tup h r, z => .tup h (PRs.dp r (by simpa [PyData.canLay0] using z))
  | .lst h r, z => .lst (.inl (.inr ⟨_, h⟩)) (PRs.dp r (by simpa [PyData.canLay0] using z))
  | .dk h r, z => by simp [PyData.canLay0] at z
  | .dt h r, z => by simp [PyData.canLay0] at z
theorem PRs.dp {vs : List V} {ds : List D} : PRs P w K H vs ds → PyData.canLayAll0 ds = true → DpAll K H vs ds
  | .nil, _ => .nil
  | .cons h r, z => by
    simp only [PyData.canLayAll0, Bool.and_eq_true] at z
    exact .cons (PR.dp h z.1) (PRs.dp r z.2)
end
theorem RRd.dp {v : V} {d : D} (h : RRd P w K H v d) (z : d.canLay0 = true) : Dp K H v d := by
  obtain ⟨x, r, e⟩ := h
  cases x with
  | d x => cases e; exact PR.dp r z
  | l xs => cases e; obtain ⟨a, vs, rfl, h, r⟩ := r; exact .lst (.inl (.inl h)) (PRs.dp r (by simpa [A.rd, PyData.canLay0] using z))
  | m xs => cases e; simp [A.rd, PyData.canLay0] at z
end

/-! ### arithmetic -/
def lim : Nat := 16777216
theorem lim_eq : lim = sizeLine := by rw [sizeLine_eq]; rfl
def opAdd : List D → Option A
  | [.int i, .int j] => some (.d (.int (i + j)))
  | [.tuple xs, .tuple ys] => if xs.length + ys.length ≤ lim then some (.d (.tuple (xs ++ ys))) else none
  | [.list xs, .list ys] => if xs.length + ys.length ≤ lim then some (.l (xs ++ ys)) else none
  | _ => none
def opSub : List D → Option A
  | [.int i, .int j] => some (.d (.int (i - j)))
  | _ => none
def opMul : List D → Option A
  | [.int i, .int j] => if i.natAbs.log2 + j.natAbs.log2 < 1000000 then some (.d (.int (i * j))) else none
  | [.list xs, .int k] => if 0 ≤ k ∧ k ≤ 1000000 ∧ xs.length * k.toNat ≤ lim then some (.l (List.replicate k.toNat xs).flatten) else none
  | [.tuple xs, .int k] => if xs ≠ [] ∧ 2 ≤ k ∧ k ≤ 1000 ∧ xs.length ≤ 1000 then some (.d (.tuple (List.replicate k.toNat xs).flatten)) else none
  | _ => none
def opDiv : List D → Option A
  | [.int i, .int j] => if 0 < j ∧ j.natAbs.log2 < 9000 then some (.d (.int (i / j))) else none
  | _ => none
def opMod : List D → Option A
  | [.int i, .int j] => if 0 < j then some (.d (.int (i % j))) else none
  | _ => none
def opNeg : List D → Option A
  | [.int i] => some (.d (.int (-i)))
  | _ => none
section
variable {X : Cx}
theorem Inv.lstR {pins : List (Addr × Obj)} {σ : St} {H : Hp} {s : Shared} {l : Addr} {xs : List V} (I : Inv X pins σ H s) (hH : Rd H l (.lst xs)) : xs.length ≤ sizeLine ∧ ∃ (its : List Value) (n : Nat), Vals xs its ∧ xs.length = its.length ∧ s.heap.get? l = some { cls := .type "list", data := .seq its.toArray n } := by
  obtain ⟨z, its, n, r, e⟩ := hH.ok I.hok
  exact ⟨z, its, n, r, r.length, e⟩
def rCatR : R2 := fun x y H Q => ∃ l b xs zs, x = .ref l ∧ y = .ref b ∧ Rd H l (.lst xs) ∧ Rd H b (.lst zs) ∧ xs.length + zs.length ≤ sizeLine ∧ ∀ p, H p = none → Q (.ref p) (upd H p (.lst (xs ++ zs)))
theorem op_catR : OpR X (binaryOp .Add) rCatR := by
  intro pins s σ H x y v u Q I rx ry h
  obtain ⟨l, b, xs, zs, rfl, rfl, hH, hB, hz, q⟩ := h
  cases rx
  cases ry
  obtain ⟨z, its, n, r, hl, e⟩ := Inv.lstR I hH
  obtain ⟨z2, its2, n2, r2, hl2, e2⟩ := Inv.lstR I hB
  refine PySem.P.add_list e e2 ?_ (by rw [List.size_toArray, List.size_toArray]; omega)
  have ea : its.toArray ++ its2.toArray = (its ++ its2).toArray := by simp
  rw [ea]
  exact ⟨.ref _, _, I.lnew (t' := s.toks) (r.append r2) (by rw [List.length_append]; omega), rfl, q _ I.fresh⟩
variable {P : Program} {w : World}
def rAddD (K : PySem.W.Frag) : R2 := fun x y H Q => rI0 (fun i j => .int (i + j)) x y H Q ∨ rCatA K x y H Q ∨ rCatR x y H Q
theorem op_addD : OpR X (binaryOp .Add) (rAddD X.K) := op_add.or (op_catA.or op_catR)
theorem ops_add : OpS P w K (fun vs H Q => ∃ x y, vs = [x, y] ∧ rAddD K x y H Q) opAdd := by
  intro H vs ds z Q r e k
  unfold opAdd at e
  split at e
  · obtain ⟨x, y, rfl, hx, hy⟩ := r.two
    cases e
    obtain rfl := hx.int
    obtain rfl := hy.int
    exact ⟨_, _, rfl, .inl ⟨_, _, rfl, rfl, k _ _ (Same.refl H) (.int _)⟩⟩
  · obtain ⟨x, y, rfl, hx, hy⟩ := r.two
    split at e
    · rename_i hl
      cases e
      obtain ⟨a, vs, rfl, hs, r1⟩ := hx.tup
      obtain ⟨b, ws, rfl, hs2, r2⟩ := hy.tup
      rw [← r1.length, ← r2.length, lim_eq] at hl
      refine ⟨_, _, rfl, .inr (.inl ⟨a, b, vs, ws, rfl, rfl, hs, hs2, hl, fun z => ?_, fun _ z => ?_, fun _ _ p hp => k _ _ (same_upd hp) (.tup hp (r1.append r2))⟩)⟩
      · subst z; cases r1; exact k _ _ (Same.refl H) (.of (.tup hs2 r2))
      · subst z; cases r2; rw [List.append_nil] at k; exact k _ _ (Same.refl H) (.of (.tup hs r1))
    · cases e
  · obtain ⟨x, y, rfl, hx, hy⟩ := r.two
    split at e
    · rename_i hl
      cases e
      obtain ⟨a, vs, rfl, hs, r1⟩ := hx.rdl
      obtain ⟨b, ws, rfl, hs2, r2⟩ := hy.rdl
      rw [← r1.length, ← r2.length, lim_eq] at hl
      exact ⟨_, _, rfl, .inr (.inr ⟨a, b, vs, ws, rfl, rfl, hs, hs2, hl, fun p hp => k _ _ (same_upd hp) (.lst hp (r1.append r2))⟩)⟩
    · cases e
  · cases e
theorem ops_int2 {C : Int → Int → Prop} {g : Int → Int → V} {op : List D → Option A} (h : ∀ ds z, op ds = some z → ∃ i j d, ds = [.int i, .int j] ∧ C i j ∧ z = .d d ∧ litV d = some (g i j)) :
    OpS P w K (fun vs H Q => ∃ x y, vs = [x, y] ∧ rI C g x y H Q) op := by
  intro H vs ds z Q r e k
  obtain ⟨i, j, d, rfl, hc, rfl, hl⟩ := h ds z e
  obtain ⟨x, y, rfl, hx, hy⟩ := r.two
  obtain rfl := hx.int
  obtain rfl := hy.int
  exact ⟨_, _, rfl, i, j, rfl, rfl, hc, k _ _ (Same.refl H) (.of (litV_pr hl))⟩
theorem ops_int2' {g : Int → Int → V} {op : List D → Option A} (h : ∀ ds z, op ds = some z → ∃ i j d, ds = [.int i, .int j] ∧ z = .d d ∧ litV d = some (g i j)) :
    OpS P w K (fun vs H Q => ∃ x y, vs = [x, y] ∧ rI0 g x y H Q) op := by
  intro H vs ds z Q r e k
  obtain ⟨i, j, d, rfl, rfl, hl⟩ := h ds z e
  obtain ⟨x, y, rfl, hx, hy⟩ := r.two
  obtain rfl := hx.int
  obtain rfl := hy.int
  exact ⟨_, _, rfl, i, j, rfl, rfl, k _ _ (Same.refl H) (.of (litV_pr hl))⟩
theorem ops_sub : OpS P w K (fun vs H Q => ∃ x y, vs = [x, y] ∧ rI0 (fun i j => .int (i - j)) x y H Q) opSub := ops_int2' fun ds z e => by
  unfold opSub at e
  split at e
  · cases e; exact ⟨_, _, _, rfl, rfl, rfl⟩
  · cases e
theorem ops_div : OpS P w K (fun vs H Q => ∃ x y, vs = [x, y] ∧ rI CDivW (fun i j => .int (i / j)) x y H Q) opDiv := ops_int2 fun ds z e => by
  unfold opDiv at e
  split at e
  · split at e
    · rename_i h; cases e; exact ⟨_, _, _, rfl, h, rfl, rfl⟩
    · cases e
  · cases e
theorem ops_mod : OpS P w K (fun vs H Q => ∃ x y, vs = [x, y] ∧ rI (fun _ j => 0 < j) (fun i j => .int (i % j)) x y H Q) opMod := ops_int2 fun ds z e => by
  unfold opMod at e
  split at e
  · split at e
    · rename_i h; cases e; exact ⟨_, _, _, rfl, h, rfl, rfl⟩
    · cases e
  · cases e
def rRepR : R2 := fun x y H Q => ∃ l k xs, x = .ref l ∧ y = .int k ∧ Rd H l (.lst xs) ∧ -(2 ^ 63) ≤ k ∧ k < 2 ^ 63 ∧ xs.length * k.toNat ≤ sizeLine ∧
  ∀ p, H p = none → Q (.ref p) (upd H p (.lst (List.replicate k.toNat xs).flatten))
open PySem.Spec PyProof.Rows in
theorem op_repR : OpR X (binaryOp .Mult) rRepR := by
  intro pins s σ H x y v u Q I rx ry h
  obtain ⟨l, k, xs, rfl, rfl, hH, h1, h2, hz, q⟩ := h
  cases rx
  obtain ⟨t, rfl⟩ := ry
  obtain ⟨z, its, n, r, hl, e⟩ := Inv.lstR I hH
  have hlen : its.toArray.size * k.toNat ≤ sizeLine := by rw [List.size_toArray, ← hl]; exact hz
  have hcap : ¬ its.toArray.size * k.toNat > (2 ^ 63 - 1) / 8 := by
    have : (sizeLine : Nat) ≤ (2 ^ 63 - 1) / 8 := by decide
    omega
  have hfit : ¬ (!Builtin.List.listFitsIndex k) = true := by
    rw [fitsIndex_both h1 h2]
    exact Bool.false_ne_true
  have hlong : ¬ Builtin.List.listTooLong (its.toArray.size * k.toNat) = true := by
    rw [notLongL hlen]
    exact Bool.false_ne_true
  have hnew : List.foldl (fun x1 x2 => x1 ++ x2) #[] (List.replicate (if its.toArray.isEmpty = true then 0 else k.toNat) its.toArray) = (List.replicate k.toNat its).flatten.toArray := by
    have f0 : ∀ m : Nat, List.foldl (fun x1 x2 => x1 ++ x2) #[] (List.replicate m its.toArray) = (List.replicate m its).flatten.toArray := fun m => by
      have := foldl_rep its m []
      rw [List.nil_append] at this
      exact this
    rw [f0]
    cases its with
    | nil => simp
    | cons a r' => rw [if_neg (by simp)]
  refine wpAny_binaryOp_repeat_ref (T := "list") (U := "int") (by decide) ⟨_, e, rfl⟩ (fun s' => typeIs_int s' k t) noFill_list_mul F.fills_int_mul F.slot_int_rmul repeat_list F.slot_int_index.lookup
    (call_meets F.slot_int_rmul (typeIs_int s k t) F.entry_int_rmul (F.args_int_rmul_2 _ _) (int___rmul___int_list k t l its.toArray n)
      ⟨e, rfl, ⟨_, e, rfl⟩, call_meets F.slot_list_mul ⟨_, e, rfl⟩ F.entry_list_mul (F.args_list_mul_2 _ _) (AutoListH.list___mul___list_int_3 l its.toArray n k t hfit hcap hlong) ⟨e, ?_⟩⟩)
  rw [hnew]
  exact ⟨.ref _, _, I.lnew (t' := s.toks) (r.rep k.toNat) (by rw [PyProof.Rows.lm_len_rep_flat, Nat.mul_comm]; exact hz), rfl, q _ I.fresh⟩
def rMulD (K : PySem.W.Frag) : R2 := fun x y H Q => rI CMulW (fun i j => .int (i * j)) x y H Q ∨ rRepR x y H Q ∨ rRepT K x y H Q
theorem op_mulD : OpR X (binaryOp .Mult) (rMulD X.K) := op_mulW.or (op_repR.or op_repT)
theorem ops_mul : OpS P w K (fun vs H Q => ∃ x y, vs = [x, y] ∧ rMulD K x y H Q) opMul := by
  intro H vs ds z Q r e k
  unfold opMul at e
  split at e
  · obtain ⟨x, y, rfl, hx, hy⟩ := r.two
    split at e
    · rename_i h
      cases e
      obtain rfl := hx.int
      obtain rfl := hy.int
      exact ⟨_, _, rfl, .inl ⟨_, _, rfl, rfl, h, k _ _ (Same.refl H) (.int _)⟩⟩
    · cases e
  · obtain ⟨x, y, rfl, hx, hy⟩ := r.two
    split at e
    · rename_i h
      cases e
      obtain ⟨a, vs, rfl, hs, r1⟩ := hx.rdl
      obtain rfl := hy.int
      rw [← r1.length, lim_eq] at h
      exact ⟨_, _, rfl, .inr (.inl ⟨a, _, vs, rfl, rfl, hs, by omega, by omega, h.2.2, fun p hp => k _ _ (same_upd hp) (.lst hp (r1.rep _))⟩)⟩
    · cases e
  · obtain ⟨x, y, rfl, hx, hy⟩ := r.two
    split at e
    · rename_i h
      cases e
      obtain ⟨a, vs, rfl, hs, r1⟩ := hx.tup
      obtain rfl := hy.int
      rw [← r1.length] at h
      exact ⟨_, _, rfl, .inr (.inr ⟨a, _, vs, rfl, rfl, hs, fun z => by subst z; cases r1; exact h.1 rfl, h.2.1, h.2.2.1, h.2.2.2, fun p hp => k _ _ (same_upd hp) (.tup hp (r1.rep _))⟩)⟩
    · cases e
  · cases e
theorem pe_negE {Tb : List (Addr × Str)} {a : Expr} {fa : M R} {E : XK} {pos : Pos} (ha : PE X a (tE P w K Tb fa E)) : PE X (.UnaryOp .USub a pos) (tE P w K Tb (evOp opNeg (evCons fa evNil)) E) := by
  refine PE.weak (pe_un un_neg (pe_fzE ha)) fun σ H Q q => ?_
  obtain ⟨c, Γ, S, q⟩ := q
  refine ⟨c, Γ, S, (Aft_bnd.mp (Aft_bnd.mp q)).imp fun ra Γ1 ea q x H1 T1 rx => ?_⟩
  have q : Aft (match conts Γ1 [ra] with | none => none | some ds => match opNeg ds with | none => none | some z => some (.ok (R.a z, Γ1))) _ _ := q
  have er : ∃ r', ra = R.fz r' := by
    unfold fz bnd at ea
    split at ea
    · cases ea
    · cases ea
    · cases ea; exact ⟨_, rfl⟩
  obtain ⟨ra, rfl⟩ := er
  have hf := FRep.of rx
  cases e : conts Γ1 [R.fz ra] with
  | none => rw [e] at q; exact q.elim
  | some ds =>
    rw [e] at q
    have rd := FReps.conts T1.rel (.cons hf .nil) e
    cases e2 : opNeg ds with
    | none => simp only [e2] at q; exact q.elim
    | some z =>
      simp only [e2] at q
      unfold opNeg at e2
      split at e2
      · cases e2
        obtain ⟨x, e3, hx⟩ := rd.one
        cases e3
        obtain rfl := hx.int
        exact ⟨_, rfl, q _ _ T1 ⟨.int _, fun z => nomatch z⟩⟩
      · cases e2
end
end Iv
set_option Elab.async false
set_option linter.all false
set_option maxRecDepth 100000
set_option maxHeartbeats 1000000
/-! Iv: tests, choices, displays. -/
namespace Iv
open PySem L2

theorem fz_of {f : M R} {Γ Γ' : Env} {r : R} (er : fz f Γ = some (.ok (r, Γ'))) : ∃ r', r = R.fz r' := by
  unfold fz bnd at er
  split at er
  · cases er
  · cases er
  · cases er; exact ⟨_, rfl⟩
def tT (P : Program) (w : World) (K : PySem.W.Frag) (Tb : List (Addr × Str)) (f : M Bool) (E : XK) : TT := fun σ H Q => ∃ (c : Ctx Tb) (Γ : Env), SRel P w K c Γ σ H ∧
  Aft (f Γ) (fun x => XPost P w K c x E) fun b Γ' => ∀ H', Stp P w K c Γ σ H Γ' H' → Q b H'
def isB : R → Option Bool
  | .a (.d (.bool b)) => some b
  | _ => none
def evB (f : M R) : M Bool := fun Γ => bnd (f Γ) fun r Γ => match isB r with
  | some b => some (.ok (b, Γ))
  | none => none
theorem isB_eq {r : R} {b : Bool} (h : isB r = some b) : r = .a (.d (.bool b)) := by
  unfold isB at h
  split at h
  · cases h; rfl
  · cases h
def evAndT (f g : M Bool) : M Bool := fun Γ => bnd (f Γ) fun b Γ => if b then g Γ else some (.ok (false, Γ))
def evOrT (f g : M Bool) : M Bool := fun Γ => bnd (f Γ) fun b Γ => if b then some (.ok (true, Γ)) else g Γ
def evNotT (f : M Bool) : M Bool := fun Γ => bnd (f Γ) fun b Γ => some (.ok (!b, Γ))
def evAnd (f g : M R) : M R := fun Γ => bnd (evB f Γ) fun b Γ => if b then g Γ else some (.ok (.a (.d (.bool false)), Γ))
def evOr (f g : M R) : M R := fun Γ => bnd (evB f Γ) fun b Γ => if b then some (.ok (.a (.d (.bool true)), Γ)) else g Γ
def evNot (f : M R) : M R := fun Γ => bnd (evB f Γ) fun b Γ => some (.ok (.a (.d (.bool (!b))), Γ))
def evIte (c : M Bool) (f g : M R) : M R := fun Γ => bnd (c Γ) fun b Γ => if b then f Γ else g Γ
def evOr2 (op : List D → Option A) (x y : R) (Γ : Env) : Option A := (conts Γ [x, y]).bind op
/-- a op b op' c, b asked once -/
def evChain (o o' : List D → Option A) (fa fb fc : M R) : M R := fun Γ => bnd (fz fa Γ) fun x Γ => bnd (fz fb Γ) fun y Γ => match evOr2 o x y Γ with
  | some (.d (.bool true)) => bnd (fz fc Γ) fun z Γ => match evOr2 o' y z Γ with
    | some u => some (.ok (.a u, Γ))
    | none => none
  | some (.d (.bool false)) => some (.ok (.a (.d (.bool false)), Γ))
  | _ => none
def datas : List R → Option (List D)
  | [] => some []
  | .a (.d x) :: rs => (datas rs).map (x :: ·)
  | _ :: _ => none
def evTup (g : M (List R)) : M R := fun Γ => bnd (g Γ) fun rs Γ => match datas rs with
  | some ds => if ds.length ≤ lim then some (.ok (.a (.d (.tuple ds)), Γ)) else none
  | none => none
def evLst (g : M (List R)) : M R := fun Γ => bnd (g Γ) fun rs Γ => match datas rs with
  | some ds => if ds.length ≤ lim then some (.ok (.a (.l ds), Γ)) else none
  | none => none
section
variable {P : Program} {w : World} {K : PySem.W.Frag} {Tb : List (Addr × Str)} {c : Ctx Tb} {Γ Γ' Γ1 Γ2 : Env} {σ : L2.St} {H H' H1 H2 : Hp} {E : XK} {X : Cx}
theorem RRep.bl {v : V} {b : Bool} (h : RRep P w K c Γ' σ H H' v (.a (.d (.bool b)))) : v = .bl b := PR.inv_bl h.1
theorem RRep.bool (b : Bool) : RRep P w K c Γ' σ H H' (.bl b) (.a (.d (.bool b))) := ⟨.bl b, fun z => nomatch z⟩
theorem tE_bool {f : M R} {Q : Bool → Hp → Prop} (q : tT P w K Tb (evB f) E σ H Q) : tE P w K Tb f E σ H fun x H' => ∃ k, x = .bl k ∧ Q k H' := by
  obtain ⟨c, Γ, S, q⟩ := q
  refine ⟨c, Γ, S, (Aft_bnd.mp q).imp fun r Γ' _ q v H' T rr => ?_⟩
  cases e : isB r with
  | none => simp only [e] at q; exact q.elim
  | some b =>
    simp only [e] at q
    have e := isB_eq e
    subst e
    exact ⟨b, rr.bl, q H' T⟩
theorem pt_of {e : Expr} {f : M R} (h : PT X e fun σ H Q => tE P w K Tb f E σ H fun x H' => ∃ k, x = .bl k ∧ Q k H') : PT X e (tT P w K Tb (evB f) E) := PT.weak h fun _ _ _ q => tE_bool q
theorem pt_valE {e : Expr} {f : M R} (h : PE X e (tE P w K Tb f E)) (he : ∀ whole, isTrue e X.env whole = (do let v ← whole; standAt e.pos; holding [v] (truthy v))) : PT X e (tT P w K Tb (evB f) E) := pt_of (pt_val h he)
theorem pt_cmp1 {a b : Expr} {o : CmpOp} {pos : Pos} {r : R2} {op : List D → Option A} {fa fb : M R} (ho : OpR X (compareOp o) r) (ha : PE X a (tE P w K Tb fa E)) (hb : PE X b (tE P w K Tb fb E)) (h : OpS P w K (fun vs H Q => ∃ x y, vs = [x, y] ∧ r x y H Q) op)
    (hm : behindInMarks o b = false) : PT X (.Compare a [o] [b] pos) (tT P w K Tb (evB (evOp op (evCons fa (evCons fb evNil)))) E) :=
  PT.weak (pt_cmpR ho (pe_fzE ha) (pe_fzE hb) hm) fun _ _ _ q => tBin h (tE_bool q)
theorem tAndT {f g : M Bool} {Q : Bool → Hp → Prop} (q : tT P w K Tb (evAndT f g) E σ H Q) : tAnd (tT P w K Tb f E) (tT P w K Tb g E) σ H Q := by
  obtain ⟨c, Γ, S, q⟩ := q
  refine ⟨c, Γ, S, (Aft_bnd.mp q).imp fun b Γ1 _ q H1 T => ?_⟩
  cases b with
  | true => exact ⟨c, Γ1, T.rel, Aft.imp q fun b Γ2 _ q H2 T2 => q H2 (T.trans T2)⟩
  | false => exact q H1 T
theorem tOrT {f g : M Bool} {Q : Bool → Hp → Prop} (q : tT P w K Tb (evOrT f g) E σ H Q) : tOr (tT P w K Tb f E) (tT P w K Tb g E) σ H Q := by
  obtain ⟨c, Γ, S, q⟩ := q
  refine ⟨c, Γ, S, (Aft_bnd.mp q).imp fun b Γ1 _ q H1 T => ?_⟩
  cases b with
  | false => exact ⟨c, Γ1, T.rel, Aft.imp q fun b Γ2 _ q H2 T2 => q H2 (T.trans T2)⟩
  | true => exact q H1 T
theorem tNotT {f : M Bool} {Q : Bool → Hp → Prop} (q : tT P w K Tb (evNotT f) E σ H Q) : tNot (tT P w K Tb f E) σ H Q := by
  obtain ⟨c, Γ, S, q⟩ := q
  exact ⟨c, Γ, S, (Aft_bnd.mp q).imp fun b Γ1 _ q H1 T => q H1 T⟩
theorem PW.weak {e : Expr} {t t' : TT} (h : PW X e t) (w : ∀ σ H Q, t' σ H Q → t σ H Q) : PW X e t' := ⟨fun wh pins s σ H Q I q => h.run wh pins s σ H Q I (w σ H Q q)⟩
theorem pw_andE {a b : Expr} {rest : List Expr} {pos : Pos} {f g : M Bool} (ha : PT X a (tT P w K Tb f E)) (hb : PW X (.BoolOp .And (b :: rest) pos) (tT P w K Tb g E)) : PW X (.BoolOp .And (a :: b :: rest) pos) (tT P w K Tb (evAndT f g) E) := PW.weak (pw_and ha hb) fun _ _ _ q => tAndT q
theorem pw_orE {a b : Expr} {rest : List Expr} {pos : Pos} {f g : M Bool} (ha : PT X a (tT P w K Tb f E)) (hb : PW X (.BoolOp .Or (b :: rest) pos) (tT P w K Tb g E)) : PW X (.BoolOp .Or (a :: b :: rest) pos) (tT P w K Tb (evOrT f g) E) := PW.weak (pw_or ha hb) fun _ _ _ q => tOrT q
theorem pt_notE {a : Expr} {pos : Pos} {f : M Bool} (ha : PT X a (tT P w K Tb f E)) : PT X (.UnaryOp .Not a pos) (tT P w K Tb (evNotT f) E) := PT.weak (pt_not ha) fun _ _ _ q => tNotT q
theorem RRep.stp0 {v : V} {r : R} (T : Stp P w K c Γ σ H Γ1 H1) (S : SRel P w K c Γ σ H) (h : RRep P w K c Γ2 σ H1 H2 v r) : RRep P w K c Γ2 σ H H2 v r := by
  cases r with
  | sl i => exact h
  | a x => exact ⟨h.1, fun hx => let ⟨p, e, hp, n⟩ := h.2 hx; ⟨p, e, T.back p hp, n⟩⟩
/-- go on behind a step -/
theorem tE_on {g : M R} {Q : VK} (S : SRel P w K c Γ σ H) (T : Stp P w K c Γ σ H Γ1 H1) (q : Aft (g Γ1) (fun x => XPost P w K c x E) fun r Γ' => ∀ v H', Stp P w K c Γ σ H Γ' H' → RRep P w K c Γ' σ H H' v r → Q v H') : tE P w K Tb g E σ H1 Q :=
  ⟨c, Γ1, T.rel, q.imp fun r Γ2 _ q v H2 T2 rr => q v H2 (T.trans T2) (rr.stp0 T S)⟩
theorem pe_andE {a b : Expr} {rest : List Expr} {pos : Pos} {f g : M R} (ha : PE X a (tE P w K Tb f E)) (hb : PE X (.BoolOp .And (b :: rest) pos) (tE P w K Tb g E)) : PE X (.BoolOp .And (a :: b :: rest) pos) (tE P w K Tb (evAnd f g) E) := by
  refine PE.weak (pe_and ha hb) fun σ H Q ⟨c, Γ, S, q⟩ => ⟨c, Γ, S, (Aft_bnd.mp (Aft_bnd.mp q)).imp fun r Γ1 _ q v H1 T rr => ?_⟩
  cases e : isB r with
  | none => simp only [e] at q; exact q.elim
  | some b =>
    simp only [e] at q
    have e := isB_eq e
    subst e
    refine ⟨b, rr.bl, ?_⟩
    cases b with
    | true => exact tE_on S T q
    | false => exact q (.bl false) H1 T (RRep.bool _)
theorem pe_orE {a b : Expr} {rest : List Expr} {pos : Pos} {f g : M R} (ha : PE X a (tE P w K Tb f E)) (hb : PE X (.BoolOp .Or (b :: rest) pos) (tE P w K Tb g E)) : PE X (.BoolOp .Or (a :: b :: rest) pos) (tE P w K Tb (evOr f g) E) := by
  refine PE.weak (pe_or ha hb) fun σ H Q ⟨c, Γ, S, q⟩ => ⟨c, Γ, S, (Aft_bnd.mp (Aft_bnd.mp q)).imp fun r Γ1 _ q v H1 T rr => ?_⟩
  cases e : isB r with
  | none => simp only [e] at q; exact q.elim
  | some b =>
    simp only [e] at q
    have e := isB_eq e
    subst e
    refine ⟨b, rr.bl, ?_⟩
    cases b with
    | false => exact tE_on S T q
    | true => exact q (.bl true) H1 T (RRep.bool _)
theorem pe_notE {a : Expr} {pos : Pos} {f : M R} (ha : PE X a (tE P w K Tb f E)) : PE X (.UnaryOp .Not a pos) (tE P w K Tb (evNot f) E) := by
  refine PE.weak (pe_not ha) fun σ H Q ⟨c, Γ, S, q⟩ => ⟨c, Γ, S, (Aft_bnd.mp (Aft_bnd.mp q)).imp fun r Γ1 _ q v H1 T rr => ?_⟩
  cases e : isB r with
  | none => simp only [e] at q; exact q.elim
  | some b =>
    simp only [e] at q
    have e := isB_eq e
    subst e
    exact ⟨b, rr.bl, q _ H1 T (RRep.bool _)⟩
theorem pe_iteE {t a b : Expr} {pos : Pos} {h : M Bool} {f g : M R} (ht : PT X t (tT P w K Tb h E)) (ha : PE X a (tE P w K Tb f E)) (hb : PE X b (tE P w K Tb g E)) : PE X (.IfExp t a b pos) (tE P w K Tb (evIte h f g) E) := by
  refine PE.weak (pe_ifExp ht ha hb) fun σ H Q ⟨c, Γ, S, q⟩ => ⟨c, Γ, S, (Aft_bnd.mp q).imp fun b Γ1 _ q H1 T => ?_⟩
  cases b with
  | true => exact tE_on S T q
  | false => exact tE_on S T q
theorem evOr2_rd {x y : V} {r s : R} {o : List D → Option A} {z : A} (S : SRel P w K c Γ σ H) (hx : FRep P w K Γ σ H x r) (hy : FRep P w K Γ σ H y s) (e : evOr2 o r s Γ = some z) : ∃ ds, RRds P w K H [x, y] ds ∧ o ds = some z := by
  unfold evOr2 at e
  cases e1 : conts Γ [r, s] with
  | none => rw [e1] at e; cases e
  | some ds => rw [e1] at e; exact ⟨ds, FReps.conts S (.cons hx (.cons hy .nil)) e1, e⟩
theorem tChainE {r r' : R2} {o o' : List D → Option A} {fa fb fc : M R} {Q : VK} (h : OpS P w K (fun vs H Q => ∃ x y, vs = [x, y] ∧ r x y H Q) o) (h' : OpS P w K (fun vs H Q => ∃ x y, vs = [x, y] ∧ r' x y H Q) o')
    (q : tE P w K Tb (evChain o o' fa fb fc) E σ H Q) : tChain r r' (tE P w K Tb (fz fa) E) (tE P w K Tb (fz fb) E) (tE P w K Tb (fz fc) E) σ H Q := by
  obtain ⟨c, Γ, S, q⟩ := q
  refine ⟨c, Γ, S, (Aft_bnd.mp q).imp fun ra Γ1 ea q x H1 T1 rx => ⟨c, Γ1, T1.rel, (Aft_bnd.mp q).imp fun rb Γ2 eb q y H2 T2 ry => ?_⟩⟩
  obtain ⟨ra, rfl⟩ := fz_of ea
  obtain ⟨rb, rfl⟩ := fz_of eb
  have fx := (FRep.of rx).stp T1.rel T2
  have fy := FRep.of ry
  have T := T1.trans T2
  cases e : evOr2 o ra.fz rb.fz Γ2 with
  | none => simp only [e] at q; exact q.elim
  | some z =>
    simp only [e] at q
    obtain ⟨ds, hd, e1⟩ := evOr2_rd T.rel fx fy e
    have key : ∀ v H3, Same H2 H3 → ANew P w K H2 H3 v z → ∃ k, v = .bl k ∧ if k = true then tE P w K Tb (fz fc) E σ H3 fun w' H4 => r' y w' H4 Q else Q (.bl false) H3 := by
      intro v H3 s n
      have T3 := T.new S s
      split at q
      · rename_i ez
        cases ez
        refine ⟨true, PR.inv_bl n.1, iteT ⟨c, Γ2, T3.rel, (Aft_bnd.mp q).imp fun rc Γ3 ec q w' H4 T4 rw' => ?_⟩⟩
        obtain ⟨rc, rfl⟩ := fz_of ec
        cases e3 : evOr2 o' rb.fz rc.fz Γ3 with
        | none => simp only [e3] at q; exact q.elim
        | some u =>
          simp only [e3] at q
          have fy' := (fy.stp T2.rel (Stp.same T2.rel s)).stp T3.rel T4
          obtain ⟨ds', hd', e4⟩ := evOr2_rd T4.rel fy' (FRep.of rw') e3
          have key2 : ∀ v H5, Same H4 H5 → ANew P w K H4 H5 v u → Q v H5 := fun v H5 s5 n5 => q v H5 ((T3.trans T4).new S s5) (RRep.new (T3.trans T4) n5 (T3.trans T4).back)
          obtain ⟨x', y', e5, hr⟩ := h' H4 [y, w'] ds' u Q hd' e4 key2
          cases e5
          exact hr
      · rename_i ez
        cases ez
        exact ⟨false, PR.inv_bl n.1, iteF (q _ _ T3 (RRep.bool _))⟩
      · exact q.elim
    obtain ⟨x', y', e2, hr⟩ := h H2 [x, y] ds z _ hd e1 key
    cases e2
    exact hr
theorem datas_rep {vs : List V} {rs : List R} (h : FReps P w K Γ σ H vs rs) : ∀ {ds : List D}, datas rs = some ds → PRs P w K H vs ds := by
  induction h with
  | nil => intro ds e; cases e; exact .nil
  | @cons v r vs rs h _ ih =>
    intro ds e
    unfold datas at e
    split at e
    · rename_i e'; cases e'
    · rename_i x rs' e'
      cases e'
      cases e2 : datas rs with
      | none => rw [e2] at e; cases e
      | some ds' => rw [e2] at e; cases e; exact .cons h.2 (ih e2)
    · cases e
theorem pe_tupE {es : List Expr} {k : Nat} {pos : Pos} {g : M (List R)} (h : PA X es (tA P w K Tb g E)) : PE X (.Tuple es k pos) (tE P w K Tb (evTup g) E) := by
  refine PE.weak (pe_tup h) fun σ H Q ⟨c, Γ, S, q⟩ => ⟨c, Γ, S, (Aft_bnd.mp q).imp fun rs Γ1 _ q vs H1 T fr => ?_⟩
  cases e : datas rs with
  | none => simp only [e] at q; exact q.elim
  | some ds =>
    simp only [e] at q
    have pr := datas_rep fr e
    split at q
    · rename_i hl
      refine ⟨by rw [pr.length, ← lim_eq]; exact hl, fun p hp => q _ _ (T.new S (same_upd hp)) ?_⟩
      exact ⟨(ANew.tup hp pr).1, fun z => nomatch z⟩
    · exact q.elim
theorem pe_lstE {es : List Expr} {pos : Pos} {g : M (List R)} (h : PA X es (tA P w K Tb g E)) : PE X (.List es pos) (tE P w K Tb (evLst g) E) := by
  refine PE.weak (pe_lst h) fun σ H Q ⟨c, Γ, S, q⟩ => ⟨c, Γ, S, (Aft_bnd.mp q).imp fun rs Γ1 _ q vs H1 T fr => ?_⟩
  cases e : datas rs with
  | none => simp only [e] at q; exact q.elim
  | some ds =>
    simp only [e] at q
    have pr := datas_rep fr e
    split at q
    · rename_i hl
      refine ⟨by rw [pr.length, ← lim_eq]; exact hl, fun p hp => q _ _ (T.new S (same_upd hp)) ?_⟩
      exact RRep.new T (ANew.lst hp pr) T.back
    · exact q.elim
end
end Iv
set_option Elab.async false
set_option linter.all false
set_option maxRecDepth 100000
set_option maxHeartbeats 1000000
/-! Iv, operations on data: comparisons, in, items, slices, lengths, kinds, all, any, min, max, sorted, tuple, list. -/
namespace Iv
open PySem L2

def shp (d : D) : Bool := SeqAt.shaped d
def opEq : List D → Option A
  | [a, b] => if shp a && shp b then some (.d (.bool (PyData.eqv a b))) else none
  | _ => none
def opNe : List D → Option A
  | [a, b] => if shp a && shp b then some (.d (.bool (!PyData.eqv a b))) else none
  | _ => none
def isNone : D → Bool
  | .none => true
  | _ => false
def cmpOk (a b : D) : Bool := PySem.W.alike a b && !isNone a && decide (a.depth ≤ 32) && a.canLay0 && b.canLay0
def ltD : D → D → Bool
  | .int i, .int j => decide (i < j)
  | a, b => PySem.W.dataLt a b
def opLt : List D → Option A
  | [a, b] => if cmpOk a b then some (.d (.bool (ltD a b))) else none
  | _ => none
def opLe : List D → Option A
  | [a, b] => if cmpOk a b then some (.d (.bool (!ltD b a))) else none
  | _ => none
def opGt : List D → Option A
  | [a, b] => if cmpOk a b then some (.d (.bool (ltD b a))) else none
  | _ => none
def opGe : List D → Option A
  | [a, b] => if cmpOk a b then some (.d (.bool (!ltD a b))) else none
  | _ => none
def opIs : List D → Option A
  | [a, .none] => some (.d (.bool (isNone a)))
  | [.bool a, .bool b] => some (.d (.bool (decide (a = b))))
  | _ => none
def opIsNot : List D → Option A
  | [a, .none] => some (.d (.bool (!isNone a)))
  | [.bool a, .bool b] => some (.d (.bool (!decide (a = b))))
  | _ => none
section
variable {P : Program} {w : World} {K : PySem.W.Frag} {H H' : Hp} {X : Cx} {E : XK} {Tb : List (Addr × Str)}
theorem shp_lay {d : D} (h : shp d = true) : d.canLay0 = true := SeqAt.canLay_of_shaped h
theorem ops_eq : OpS P w K (fun vs H Q => ∃ x y, vs = [x, y] ∧ rEqD K x y H Q) opEq := by
  intro H vs ds z Q r e k
  unfold opEq at e
  split at e
  · obtain ⟨x, y, rfl, hx, hy⟩ := r.two
    split at e
    · rename_i h
      cases e
      rw [Bool.and_eq_true] at h
      exact ⟨_, _, rfl, _, _, hx.dp (shp_lay h.1), hy.dp (shp_lay h.2), h.1, h.2, k _ _ (Same.refl H) (.bl _)⟩
    · cases e
  · cases e
theorem ops_ne : OpS P w K (fun vs H Q => ∃ x y, vs = [x, y] ∧ rNeD K x y H Q) opNe := by
  intro H vs ds z Q r e k
  unfold opNe at e
  split at e
  · obtain ⟨x, y, rfl, hx, hy⟩ := r.two
    split at e
    · rename_i h
      cases e
      rw [Bool.and_eq_true] at h
      exact ⟨_, _, rfl, _, _, hx.dp (shp_lay h.1), hy.dp (shp_lay h.2), h.1, h.2, k _ _ (Same.refl H) (.bl _)⟩
    · cases e
  · cases e
/-- <, >, <=, >= of alike data -/
def rCmp (K : PySem.W.Frag) (f : D → D → Bool) : R2 := fun x y H Q => ∃ a b, Dp K H x a ∧ Dp K H y b ∧ cmpOk a b = true ∧ Q (.bl (f a b)) H
theorem ltD_eq (a b : D) : ltD a b = PySem.W.dataLt a b := by
  unfold ltD
  split
  · exact (PySem.W.dataLt_int _ _).symm
  · rfl
theorem cmpOk_of {a b : D} (h : cmpOk a b = true) : PySem.W.alike a b = true ∧ a ≠ .none ∧ a.depth ≤ 32 := by
  unfold cmpOk at h
  simp only [Bool.and_eq_true, decide_eq_true_eq] at h
  refine ⟨h.1.1.1.1, fun z => ?_, h.1.1.2⟩
  subst z
  simp [isNone] at h
theorem op_ltX (hu : X.A.units + 64 < cLine) : OpR X (compareOp .Lt) (rCmp X.K ltD) := by
  intro pins s σ H x y v u Q I rx ry ⟨a, b, ha, hb, hc, q⟩
  obtain ⟨as, r1⟩ := Dp.reads I a x v ha rx
  obtain ⟨bs, r2⟩ := Dp.reads I b y u hb ry
  obtain ⟨h1, h2, h3⟩ := cmpOk_of hc
  have h4 : min a.depth b.depth ≤ a.depth := Nat.min_le_left _ _
  rw [ltD_eq] at q
  exact PySem.W.lt_data r1 r2 h1 h2 (by omega) ⟨.bl _, H, I, rfl, q⟩
theorem op_gtX (hu : X.A.units + 64 < cLine) : OpR X (compareOp .Gt) (rCmp X.K fun a b => ltD b a) := by
  intro pins s σ H x y v u Q I rx ry ⟨a, b, ha, hb, hc, q⟩
  obtain ⟨as, r1⟩ := Dp.reads I a x v ha rx
  obtain ⟨bs, r2⟩ := Dp.reads I b y u hb ry
  obtain ⟨h1, h2, h3⟩ := cmpOk_of hc
  have h4 : min a.depth b.depth ≤ a.depth := Nat.min_le_left _ _
  simp only [ltD_eq] at q
  exact PySem.W.gt_data r1 r2 h1 h2 (by omega) ⟨.bl _, H, I, rfl, q⟩
theorem op_leX (hu : X.A.units + 64 < cLine) : OpR X (compareOp .LtE) (rCmp X.K fun a b => !ltD b a) := by
  intro pins s σ H x y v u Q I rx ry ⟨a, b, ha, hb, hc, q⟩
  obtain ⟨as, r1⟩ := Dp.reads I a x v ha rx
  obtain ⟨bs, r2⟩ := Dp.reads I b y u hb ry
  obtain ⟨h1, h2, h3⟩ := cmpOk_of hc
  have h4 : min a.depth b.depth ≤ a.depth := Nat.min_le_left _ _
  simp only [ltD_eq] at q
  exact PySem.W.le_data r1 r2 h1 h2 (by omega) ⟨.bl _, H, I, rfl, q⟩
theorem op_geX (hu : X.A.units + 64 < cLine) : OpR X (compareOp .GtE) (rCmp X.K fun a b => !ltD a b) := by
  intro pins s σ H x y v u Q I rx ry ⟨a, b, ha, hb, hc, q⟩
  obtain ⟨as, r1⟩ := Dp.reads I a x v ha rx
  obtain ⟨bs, r2⟩ := Dp.reads I b y u hb ry
  obtain ⟨h1, h2, h3⟩ := cmpOk_of hc
  have h4 : min a.depth b.depth ≤ a.depth := Nat.min_le_left _ _
  simp only [ltD_eq] at q
  exact PySem.W.ge_data r1 r2 h1 h2 (by omega) ⟨.bl _, H, I, rfl, q⟩

theorem ops_cmp {f : D → D → Bool} {op : List D → Option A} (h : ∀ ds z, op ds = some z → ∃ a b, ds = [a, b] ∧ cmpOk a b = true ∧ z = .d (.bool (f a b))) : OpS P w K (fun vs H Q => ∃ x y, vs = [x, y] ∧ rCmp K f x y H Q) op := by
  intro H vs ds z Q r e k
  obtain ⟨a, b, rfl, hc, rfl⟩ := h ds z e
  obtain ⟨x, y, rfl, hx, hy⟩ := r.two
  have hl : a.canLay0 = true ∧ b.canLay0 = true := by
    unfold cmpOk at hc
    simp only [Bool.and_eq_true] at hc
    exact ⟨hc.1.2, hc.2⟩
  exact ⟨_, _, rfl, a, b, hx.dp hl.1, hy.dp hl.2, hc, k _ _ (Same.refl H) (.bl _)⟩
theorem ops_lt : OpS P w K (fun vs H Q => ∃ x y, vs = [x, y] ∧ rCmp K ltD x y H Q) opLt := ops_cmp fun ds z e => by
  unfold opLt at e
  split at e
  · split at e
    · rename_i h; cases e; exact ⟨_, _, rfl, h, rfl⟩
    · cases e
  · cases e
theorem ops_le : OpS P w K (fun vs H Q => ∃ x y, vs = [x, y] ∧ rCmp K (fun a b => !ltD b a) x y H Q) opLe := ops_cmp fun ds z e => by
  unfold opLe at e
  split at e
  · split at e
    · rename_i h; cases e; exact ⟨_, _, rfl, h, rfl⟩
    · cases e
  · cases e
theorem ops_gt : OpS P w K (fun vs H Q => ∃ x y, vs = [x, y] ∧ rCmp K (fun a b => ltD b a) x y H Q) opGt := ops_cmp fun ds z e => by
  unfold opGt at e
  split at e
  · split at e
    · rename_i h; cases e; exact ⟨_, _, rfl, h, rfl⟩
    · cases e
  · cases e
theorem ops_ge : OpS P w K (fun vs H Q => ∃ x y, vs = [x, y] ∧ rCmp K (fun a b => !ltD a b) x y H Q) opGe := ops_cmp fun ds z e => by
  unfold opGe at e
  split at e
  · split at e
    · rename_i h; cases e; exact ⟨_, _, rfl, h, rfl⟩
    · cases e
  · cases e
theorem RRd.isN {v : V} {d : D} (h : RRd P w K H v d) : decide (v = .non) = isNone d := by
  obtain ⟨x, r, rfl⟩ := h
  cases x with
  | d x => cases r <;> simp [A.rd, isNone]
  | l xs => obtain ⟨a, vs, rfl, _⟩ := r; simp [A.rd, isNone]
  | m xs => obtain ⟨a, u, rfl, _⟩ := r; simp [A.rd, isNone]
def rIsD : R2 := fun x y H Q => (y = .non ∧ Q (.bl (decide (x = .non))) H) ∨ rIsB x y H Q
def rIsNotD : R2 := fun x y H Q => (y = .non ∧ Q (.bl (!decide (x = .non))) H) ∨ rNotB x y H Q
theorem op_isD : OpR X (compareOp .Is) rIsD := op_isN.or op_isBl
theorem op_isNotD : OpR X (compareOp .IsNot) rIsNotD := op_notN.or op_notBl
theorem ops_is : OpS P w K (fun vs H Q => ∃ x y, vs = [x, y] ∧ rIsD x y H Q) opIs := by
  intro H vs ds z Q r e k
  unfold opIs at e
  split at e
  · obtain ⟨x, y, rfl, hx, hy⟩ := r.two
    cases e
    obtain rfl := hy.non
    refine ⟨_, _, rfl, .inl ⟨rfl, ?_⟩⟩
    rw [hx.isN]
    exact k _ _ (Same.refl H) (.bl _)
  · obtain ⟨x, y, rfl, hx, hy⟩ := r.two
    cases e
    obtain rfl := hx.bl
    obtain rfl := hy.bl
    exact ⟨_, _, rfl, .inr ⟨_, _, rfl, rfl, k _ _ (Same.refl H) (.bl _)⟩⟩
  · cases e
theorem ops_isnot : OpS P w K (fun vs H Q => ∃ x y, vs = [x, y] ∧ rIsNotD x y H Q) opIsNot := by
  intro H vs ds z Q r e k
  unfold opIsNot at e
  split at e
  · obtain ⟨x, y, rfl, hx, hy⟩ := r.two
    cases e
    obtain rfl := hy.non
    refine ⟨_, _, rfl, .inl ⟨rfl, ?_⟩⟩
    rw [hx.isN]
    exact k _ _ (Same.refl H) (.bl _)
  · obtain ⟨x, y, rfl, hx, hy⟩ := r.two
    cases e
    obtain rfl := hx.bl
    obtain rfl := hy.bl
    exact ⟨_, _, rfl, .inr ⟨_, _, rfl, rfl, k _ _ (Same.refl H) (.bl _)⟩⟩
  · cases e
end

/-! ### one operand -/
section
variable {P : Program} {w : World} {K : PySem.W.Frag} {Tb : List (Addr × Str)} {c : Ctx Tb} {Γ Γ' Γ1 Γ2 : Env} {σ : L2.St} {H H' H1 H2 : Hp} {E : XK} {X : Cx}
theorem tOne {r : V → Hp → VK → Prop} {op : List D → Option A} (h : OpS P w K (fun vs H Q => ∃ x, vs = [x] ∧ r x H Q) op) {fa : M R} {Q : VK} (q : tE P w K Tb (evOp op (evCons fa evNil)) E σ H Q) : tE P w K Tb (fz fa) E σ H fun x H1 => r x H1 Q := by
  obtain ⟨c, Γ, S, q⟩ := tOpS h q
  refine ⟨c, Γ, S, (Aft_bnd.mp q).imp fun ra Γ1 ea q x H1 T1 rx => ?_⟩
  obtain ⟨ra, rfl⟩ := fz_of ea
  have q : ∀ vs H', Stp P w K c Γ σ H Γ1 H' → FReps P w K Γ1 σ H' vs [ra.fz] → _ := q
  obtain ⟨x', e, q⟩ := q [x] H1 T1 (.cons (FRep.of rx) .nil)
  cases e
  exact q
end

/-! ### items, slices -/
def ixD (n : Nat) (i : Int) : Option Nat := if 0 ≤ i then (if i < n then some i.toNat else none) else if -(n : Int) ≤ i then some (i + n).toNat else none
def opIx : List D → Option A
  | [.list xs, .int i] => ((ixD xs.length i).bind fun j => xs[j]?).map .d
  | [.tuple xs, .int i] => ((ixD xs.length i).bind fun j => xs[j]?).map .d
  | _ => none
def opLen : List D → Option A
  | [.list xs] => some (.d (.int xs.length))
  | [.tuple xs] => some (.d (.int xs.length))
  | _ => none
def sIxD (n d : Nat) : Option Int → Nat
  | none => d
  | some v => if v < 0 then (v + (n : Int)).toNat else min v.toNat n
def cutD (xs : List D) (lo hi : Option Int) : List D := (xs.drop (sIxD xs.length 0 lo)).take (sIxD xs.length xs.length hi - sIxD xs.length 0 lo)
def opSl (lo hi : Option Int) : List D → Option A
  | [.list xs] => some (.l (cutD xs lo hi))
  | [.tuple xs] => some (.d (.tuple (cutD xs lo hi)))
  | _ => none
section
variable {P : Program} {w : World} {K : PySem.W.Frag} {H H' : Hp} {X : Cx} {E : XK} {Tb : List (Addr × Str)}
def rIxD (K : PySem.W.Frag) : R2 := fun x y H Q => rIxL K x y H Q ∨ rIxT K x y H Q
theorem ix_D : IxR X (rIxD X.K) := ix_list.or ix_tup
theorem atI_of {vs : List V} {ds : List D} (r : PRs P w K H vs ds) {i : Int} {d : D} (h : ((ixD ds.length i).bind fun j => ds[j]?) = some d) : ∃ v, atI vs i = some v ∧ PR P w K H v d := by
  unfold atI
  rw [r.length]
  show ∃ v, ((ixD ds.length i).bind fun j => vs[j]?) = some v ∧ _
  cases e : ixD ds.length i with
  | none => rw [e] at h; cases h
  | some j => rw [e] at h; exact r.get h
theorem ops_ix : OpS P w K (fun vs H Q => ∃ x y, vs = [x, y] ∧ rIxD K x y H Q) opIx := by
  intro H vs ds z Q r e k
  unfold opIx at e
  split at e
  · obtain ⟨x, y, rfl, hx, hy⟩ := r.two
    obtain ⟨d, e1, rfl⟩ := Option.map_eq_some_iff.mp e
    obtain ⟨a, vs, rfl, hs, r1⟩ := hx.lst
    obtain rfl := hy.int
    obtain ⟨v, e2, pv⟩ := atI_of r1 e1
    exact ⟨_, _, rfl, .inl ⟨a, vs, _, v, rfl, rfl, hs, e2, k _ _ (Same.refl H) (.of pv)⟩⟩
  · obtain ⟨x, y, rfl, hx, hy⟩ := r.two
    obtain ⟨d, e1, rfl⟩ := Option.map_eq_some_iff.mp e
    obtain ⟨a, vs, rfl, hs, r1⟩ := hx.tup
    obtain rfl := hy.int
    obtain ⟨v, e2, pv⟩ := atI_of r1 e1
    exact ⟨_, _, rfl, .inr ⟨a, vs, _, v, rfl, rfl, hs, e2, k _ _ (Same.refl H) (.of pv)⟩⟩
  · cases e
def rLen1 (K : PySem.W.Frag) : V → Hp → VK → Prop := fun x H Q => ∃ p ys, x = .ref p ∧ (SqL K H p ys ∨ SqT K H p ys) ∧ Q (.int ys.length) H
theorem call_lenE : CallR X (.builtin "len") (fun vs H Q => ∃ x, vs = [x] ∧ rLen1 X.K x H Q) := by
  intro pins s σ H xs us Q I r ⟨x, e, p, ys, e2, h, q⟩
  subst e e2
  exact call_len_seq pins s σ H _ us Q I r ⟨p, ys, rfl, h, q⟩
theorem ops_len : OpS P w K (fun vs H Q => ∃ x, vs = [x] ∧ rLen1 K x H Q) opLen := by
  intro H vs ds z Q r e k
  unfold opLen at e
  split at e
  · obtain ⟨x, rfl, hx⟩ := r.one
    cases e
    obtain ⟨a, vs, rfl, hs, r1⟩ := hx.lst
    refine ⟨_, rfl, a, vs, rfl, .inl hs, ?_⟩
    rw [r1.length]
    exact k _ _ (Same.refl H) (.int _)
  · obtain ⟨x, rfl, hx⟩ := r.one
    cases e
    obtain ⟨a, vs, rfl, hs, r1⟩ := hx.tup
    refine ⟨_, rfl, a, vs, rfl, .inr hs, ?_⟩
    rw [r1.length]
    exact k _ _ (Same.refl H) (.int _)
  · cases e
theorem cut_rep {vs : List V} {ds : List D} (r : PRs P w K H vs ds) (lo hi : Option Int) : PRs P w K H (cutV vs lo hi) (cutD ds lo hi) := by
  have e : ∀ n d o, sIxD n d o = HT.sIx n d o := fun n d o => by cases o <;> rfl
  unfold cutV cutD
  simp only [e, r.length]
  exact (r.drop _).take _
end
end Iv
set_option Elab.async false
set_option linter.all false
set_option maxRecDepth 100000
set_option maxHeartbeats 1000000
/-! Iv, more operations: slices, kinds, all, any, least and greatest, sorted, tuple, list. -/
namespace Iv
open PySem L2

def evPart : Option (M R) → M (Option Int)
  | none => fun Γ => some (.ok (none, Γ))
  | some f => fun Γ => bnd (fz f Γ) fun r Γ => match cont Γ r with
    | some (.int i) => some (.ok (some i, Γ))
    | _ => none
def evSl (fo : M R) (fl fh : Option (M R)) : M R := fun Γ => bnd (fz fo Γ) fun o Γ => bnd (evPart fl Γ) fun lo Γ => bnd (evPart fh Γ) fun hi Γ => match cont Γ o with
  | some d => match opSl lo hi [d] with
    | some z => some (.ok (.a z, Γ))
    | none => none
  | none => none
section
variable {P : Program} {w : World} {K : PySem.W.Frag} {Tb : List (Addr × Str)} {c : Ctx Tb} {Γ Γ' Γ1 Γ2 : Env} {σ : L2.St} {H H' H1 H2 : Hp} {E : XK} {X : Cx}
def PPart (X : Cx) (P : Program) (w : World) (K : PySem.W.Frag) (Tb : List (Addr × Str)) (E : XK) (e : Option Expr) (f : Option (M R)) : Prop := match e, f with
  | none, none => True
  | some e, some f => PE X e (tE P w K Tb f E)
  | _, _ => False
def tP (P : Program) (w : World) (K : PySem.W.Frag) (Tb : List (Addr × Str)) (f : M (Option Int)) (E : XK) : TO := fun σ H Q => ∃ (c : Ctx Tb) (Γ : Env), SRel P w K c Γ σ H ∧
  Aft (f Γ) (fun x => XPost P w K c x E) fun i Γ' => ∀ H', Stp P w K c Γ σ H Γ' H' → Q i H'
theorem PO.weak {e : Option Expr} {t t' : TO} (h : PO X e t) (w : ∀ σ H Q, t' σ H Q → t σ H Q) : PO X e t' := ⟨fun pins s σ H Q I q => h.run pins s σ H Q I (w σ H Q q)⟩
theorem po_E {e : Option Expr} {f : Option (M R)} (h : PPart X P w K Tb E e f) : PO X e (tP P w K Tb (evPart f) E) := by
  cases e with
  | none => cases f with
    | none => exact PO.weak po_none fun σ H Q ⟨c, Γ, S, q⟩ => q H (Stp.refl S)
    | some f => exact h.elim
  | some e => cases f with
    | none => exact h.elim
    | some f =>
      refine PO.weak (po_some (pe_fzE (show PE X e (tE P w K Tb f E) from h))) fun σ H Q ⟨c, Γ, S, q⟩ => ⟨c, Γ, S, (Aft_bnd.mp q).imp fun r Γ1 er q x H1 T rx => ?_⟩
      obtain ⟨r, rfl⟩ := fz_of er
      cases e : cont Γ1 r.fz with
      | none => simp only [e] at q; exact q.elim
      | some d =>
        simp only [e] at q
        have rd := FRep.cont T.rel (FRep.of rx) e
        split at q
        · rename_i i e2
          cases e2
          exact ⟨i, rd.int, q H1 T⟩
        · exact q.elim
def rSlD (K : PySem.W.Frag) : V → Option Int → Option Int → Hp → VK → Prop := fun x lo hi H Q => rSlL K x lo hi H Q ∨ rSlA K x lo hi H Q
theorem sl_D : SlR X (rSlD X.K) := sl_list.or sl_tupA
theorem pe_slE {o : Expr} {lo hi : Option Expr} {p2 pos : Pos} {fo : M R} {fl fh : Option (M R)} (ho : PE X o (tE P w X.K Tb fo E)) (hl : PPart X P w X.K Tb E lo fl) (hh : PPart X P w X.K Tb E hi fh) :
    PE X (.Subscript o (.Slice lo hi none p2) pos) (tE P w X.K Tb (evSl fo fl fh) E) := by
  refine PE.weak (pe_slice sl_D (pe_fzE ho) (po_E hl) (po_E hh)) fun σ H Q ⟨c, Γ, S, q⟩ => ⟨c, Γ, S, (Aft_bnd.mp q).imp fun r Γ1 er q x H1 T1 rx => ⟨c, Γ1, T1.rel, (Aft_bnd.mp q).imp fun l Γ2 _ q H2 T2 => ⟨c, Γ2, T2.rel, (Aft_bnd.mp q).imp fun u Γ3 _ q H3 T3 => ?_⟩⟩⟩
  obtain ⟨r, rfl⟩ := fz_of er
  have fr := ((FRep.of rx).stp T1.rel T2).stp T2.rel T3
  have T := (T1.trans T2).trans T3
  cases e : cont Γ3 r.fz with
  | none => simp only [e] at q; exact q.elim
  | some d =>
    simp only [e] at q
    have rd := fr.cont T.rel e
    unfold opSl at q
    split at q
    · rename_i z e2
      have fin : ∀ v H4, Same H3 H4 → ANew P w X.K H3 H4 v z → Q v H4 := fun v H4 s n => q v H4 (T.new S s) (RRep.new T n T.back)
      split at e2
      · rename_i xs e3
        cases e3
        cases e2
        obtain ⟨a, vs, rfl, hs, r1⟩ := rd.lst
        exact .inl ⟨a, vs, rfl, hs, fun p hp => fin _ _ (same_upd hp) (.lst hp (cut_rep r1 l u))⟩
      · rename_i xs e3
        cases e3
        cases e2
        obtain ⟨a, vs, rfl, hs, r1⟩ := rd.tup
        refine .inr ⟨a, vs, rfl, hs, fun z => fin _ _ (Same.refl _) (.of ?_), fun z p hp => fin _ _ (same_upd hp) (.tup hp (cut_rep r1 l u))⟩
        have := cut_rep r1 l u
        have ev : cutV vs l u = vs := by unfold cutV; rw [z.1, z.2]; simp
        rw [ev] at this
        exact .tup hs this
      · cases e2
    · exact q.elim
end

/-! ### isinstance -/
def tyOf : D → String
  | .none => "NoneType"
  | .bool _ => "bool"
  | .int _ => "int"
  | .str _ => "str"
  | .list _ => "list"
  | .tuple _ => "tuple"
  | .dict _ => "dict"
inductive Ty where
  | int | bool | tuple | str
def Ty.nm : Ty → String
  | .int => "int"
  | .bool => "bool"
  | .tuple => "tuple"
  | .str => "str"
def isiD : Ty → D → Bool
  | .int, .int _ => true
  | .int, .bool _ => true
  | .bool, .bool _ => true
  | .tuple, .tuple _ => true
  | .str, .str _ => true
  | _, _ => false
theorem isi_kit (T : Ty) (d : D) : kitB (tyOf d) T.nm = some (isiD T d) := by
  cases T <;> cases d <;> simp only [tyOf, isiD, Ty.nm] <;> decide +kernel
section
variable {P : Program} {w : World} {K : PySem.W.Frag} {Tb : List (Addr × Str)} {c : Ctx Tb} {Γ Γ' Γ1 Γ2 : Env} {σ : L2.St} {H H' H1 H2 : Hp} {E : XK} {X : Cx}
/-- what the library's isinstance rules ask of a value -/
theorem kit_D {pins : List (Addr × Obj)} {s : Shared} {x : V} {u : Value} {d : D} (I : Inv X pins σ H s) (rx : RelV x u) (r : RRd X.prog X.w X.K H x d) : ∃ Pp : Heap → Prop, PySem.W.KitX X.K u (.type (tyOf d)) Pp ∧ Pp s.heap ∧ u ≠ .builtin "__main__.__loader__#opaque" := by
  have base : ∀ {t : Value}, TyX X.K H x t → ∃ Pp : Heap → Prop, PySem.W.KitX X.K u t Pp ∧ Pp s.heap ∧ u ≠ .builtin "__main__.__loader__#opaque" := fun ty => kit_of I rx ty
  obtain ⟨y, r, rfl⟩ := r
  have dictx : ∀ {a : Addr} {v : HO}, x = .ref a → (H a = some v ∨ ∃ o, H a = some (.frz o v)) → (∃ xs, v = .ext (TD X.prog X.w a xs)) → ∃ Pp : Heap → Prop, PySem.W.KitX X.K u (.type "dict") Pp ∧ Pp s.heap ∧ u ≠ .builtin "__main__.__loader__#opaque" := by
    intro a v ex h ⟨xs, ev⟩
    subst ex ev
    cases (show u = Value.ref a from rx)
    have hr : Rd H a (.ext (TD X.prog X.w a xs)) := h
    obtain ⟨⟨_, _, _, o, es, ep, h1, h2, _⟩, _⟩ := hr.ok I.hok
    exact ⟨_, PySem.W.kitx_dict, ⟨o, h1, h2.1⟩, fun z => nomatch z⟩
  cases y with
  | d y =>
    cases r with
    | non => exact base (.base .non)
    | bl b => exact base (.base (.bl b))
    | int i => exact base (.base (.int i))
    | str z => exact base (.base (.str z))
    | tup h _ =>
      rcases h with (h | ⟨o, h⟩) | ⟨o, its, n, hk, hc, _⟩
      · exact base (.base (.tup h))
      · exact base (.fTuple h)
      · exact base (.kTuple hk hc)
    | lst h _ => exact base (.base (.frz h))
    | dk h _ => exact base (.fDict h)
    | dt h _ => exact dictx rfl (.inr ⟨_, h⟩) ⟨_, rfl⟩
  | l xs =>
    obtain ⟨a, vs, rfl, h, _⟩ := r
    exact base (.base (.lst h))
  | m kvs =>
    obtain ⟨a, v, rfl, h, r⟩ := r
    cases r with
    | k _ => exact base (.base (.dK h))
    | t _ _ => exact dictx rfl (.inl h) ⟨_, rfl⟩
def rIsiD (P : Program) (w : World) (K : PySem.W.Frag) (T : Ty) : V → Hp → VK → Prop := fun x H Q => ∃ d, RRd P w K H x d ∧ Q (.bl (isiD T d)) H
theorem call_isiD {T : Ty} : CallR X (.builtin "isinstance") (fun vs H Q => ∃ x, vs = [x, .ty T.nm] ∧ rIsiD X.prog X.w X.K T x H Q) := by
  intro pins s σ H xs us Q I r ⟨x, e, d, rd, q⟩
  subst e
  obtain ⟨u1, u2, rfl, r1, r2⟩ := vals2 r
  have e2 : u2 = .type T.nm := r2
  subst e2
  obtain ⟨Pp, Z, p, hx⟩ := kit_D I r1 rd
  exact PySem.W.kia_one Z I.kIn p (kit_ty (isi_kit T d)) hx fun tk => ⟨.bl _, H, I.tok tk, rfl, q⟩
def opIsi (T : Ty) : List D → Option A
  | [d] => some (.d (.bool (isiD T d)))
  | _ => none
theorem ops_isi {T : Ty} : OpS P w K (fun vs H Q => ∃ x, vs = [x] ∧ rIsiD P w K T x H Q) (opIsi T) := by
  intro H vs ds z Q r e k
  unfold opIsi at e
  split at e
  · obtain ⟨x, rfl, hx⟩ := r.one
    cases e
    exact ⟨_, rfl, _, hx, k _ _ (Same.refl H) (.bl _)⟩
  · cases e
/-- isinstance(e, T), T a built-in class by its name -/
theorem pe_isiE {e : Expr} {x tn : Str} {p p2 pos : Pos} {T : Ty} {f : M R} (hg : Gl X x) (hm : X.mg x = none) (hv : bootBuiltins x = some (.builtin "isinstance")) (ht : Gl X tn) (hmt : X.mg tn = none) (hvt : bootBuiltins tn = some (.type T.nm)) (he : PE X e (tE X.prog X.w X.K Tb f E))
    (hs : nst e = true) (hn : x ≠ "__name__") (hd : (x == ("__debug__" : Str)) = false) (hn2 : tn ≠ "__name__") (hd2 : (tn == ("__debug__" : Str)) = false) :
    PE X (.Call (.Name x p) [e, .Name tn p2] [] pos) (tE X.prog X.w X.K Tb (evOp (opIsi T) (evCons f evNil)) E) := by
  refine PE.weak (pe_callB (call_isiD (T := T)) hg hm hv (pa_cons (pe_fzE he) (pa_cons (pe_bltn (v := .ty T.nm) ht hmt hvt rfl hn2 hd2) pa_nil (star_cons rfl)) (star_cons hs)) hn hd (star_cons hs) (star_any rfl)) fun σ H Q q => ?_
  exact tE_imp' (tOne ops_isi q)
where
  tE_imp' {σ : L2.St} {H : Hp} {Q : VK} {f : M R} (q : tE X.prog X.w X.K Tb (fz f) E σ H fun x H1 => rIsiD X.prog X.w X.K T x H1 Q) : tE X.prog X.w X.K Tb (fz f) E σ H fun x H1 => tCons (tC (.ty T.nm)) tNil σ H1 fun xs H2 => ∃ y, x :: xs = [y, .ty T.nm] ∧ rIsiD X.prog X.w X.K T y H2 Q := by
    obtain ⟨c, Γ, S, q⟩ := q
    exact ⟨c, Γ, S, q.imp fun r Γ1 _ q v H1 T rr => ⟨v, rfl, q v H1 T rr⟩⟩
end

/-! ### all, any; int, abs; min, max of two -/
def boolsD : List D → Option (List Bool)
  | [] => some []
  | .bool b :: ds => (boolsD ds).map (b :: ·)
  | _ :: _ => none
def opAll : List D → Option A
  | [.list ds] => (boolsD ds).map fun bs => .d (.bool (bs.all id))
  | _ => none
def opAny : List D → Option A
  | [.list ds] => (boolsD ds).map fun bs => .d (.bool (bs.any id))
  | _ => none
def opInt : List D → Option A
  | [.int i] => some (.d (.int i))
  | [.bool b] => some (.d (.int (if b then 1 else 0)))
  | _ => none
def opAbs : List D → Option A
  | [.int i] => some (.d (.int (if i < 0 then -i else i)))
  | _ => none
def opMax2 : List D → Option A
  | [.int i, .int j] => some (.d (.int (if j > i then j else i)))
  | _ => none
def opMin2 : List D → Option A
  | [.int i, .int j] => some (.d (.int (if j < i then j else i)))
  | _ => none
section
variable {P : Program} {w : World} {K : PySem.W.Frag} {H H' : Hp} {E : XK} {X : Cx} {Tb : List (Addr × Str)}
theorem boolsD_eq : ∀ {ds : List D} {bs : List Bool}, boolsD ds = some bs → ds = bs.map .bool
  | [], bs, h => by cases h; rfl
  | d :: ds, bs, h => by
    unfold boolsD at h
    split at h
    · rename_i e; cases e
    · rename_i b ds' e
      cases e
      obtain ⟨bs', e1, rfl⟩ := Option.map_eq_some_iff.mp h
      rw [boolsD_eq e1]
      rfl
    · cases h
theorem ops_all : OpS P w K (rAll K) opAll := by
  intro H vs ds z Q r e k
  unfold opAll at e
  split at e
  · obtain ⟨x, rfl, hx⟩ := r.one
    obtain ⟨bs, e1, rfl⟩ := Option.map_eq_some_iff.mp e
    rw [boolsD_eq e1] at hx
    obtain ⟨a, vs, rfl, hs, r1⟩ := hx.lst
    rw [r1.bls] at hs
    exact ⟨a, bs, rfl, hs, k _ _ (Same.refl H) (.bl _)⟩
  · cases e
theorem ops_any : OpS P w K (rAny K) opAny := by
  intro H vs ds z Q r e k
  unfold opAny at e
  split at e
  · obtain ⟨x, rfl, hx⟩ := r.one
    obtain ⟨bs, e1, rfl⟩ := Option.map_eq_some_iff.mp e
    rw [boolsD_eq e1] at hx
    obtain ⟨a, vs, rfl, hs, r1⟩ := hx.lst
    rw [r1.bls] at hs
    exact ⟨a, bs, rfl, hs, k _ _ (Same.refl H) (.bl _)⟩
  · cases e
theorem ops_int : OpS P w K (fun xs H Q => (∃ i, xs = [.int i] ∧ Q (.int i) H) ∨ ∃ k, xs = [.bl k] ∧ Q (.int (if k then 1 else 0)) H) opInt := by
  intro H vs ds z Q r e k
  unfold opInt at e
  split at e
  · obtain ⟨x, rfl, hx⟩ := r.one
    cases e
    obtain rfl := hx.int
    exact .inl ⟨_, rfl, k _ _ (Same.refl H) (.int _)⟩
  · obtain ⟨x, rfl, hx⟩ := r.one
    cases e
    obtain rfl := hx.bl
    exact .inr ⟨_, rfl, k _ _ (Same.refl H) (.int _)⟩
  · cases e
theorem ops_abs : OpS P w K (fun xs H Q => ∃ i, xs = [.int i] ∧ Q (.int (if i < 0 then -i else i)) H) opAbs := by
  intro H vs ds z Q r e k
  unfold opAbs at e
  split at e
  · obtain ⟨x, rfl, hx⟩ := r.one
    cases e
    obtain rfl := hx.int
    exact ⟨_, rfl, k _ _ (Same.refl H) (.int _)⟩
  · cases e
theorem ops_max2 : OpS P w K (fun xs H Q => ∃ i j, xs = [.int i, .int j] ∧ Q (.int (if j > i then j else i)) H) opMax2 := by
  intro H vs ds z Q r e k
  unfold opMax2 at e
  split at e
  · obtain ⟨x, y, rfl, hx, hy⟩ := r.two
    cases e
    obtain rfl := hx.int
    obtain rfl := hy.int
    exact ⟨_, _, rfl, k _ _ (Same.refl H) (.int _)⟩
  · cases e
theorem ops_min2 : OpS P w K (fun xs H Q => ∃ i j, xs = [.int i, .int j] ∧ Q (.int (if j < i then j else i)) H) opMin2 := by
  intro H vs ds z Q r e k
  unfold opMin2 at e
  split at e
  · obtain ⟨x, y, rfl, hx, hy⟩ := r.two
    cases e
    obtain rfl := hx.int
    obtain rfl := hy.int
    exact ⟨_, _, rfl, k _ _ (Same.refl H) (.int _)⟩
  · cases e
end

/-! ### sorted, of a list; tuple, list of a list or a tuple -/
def isTup1 : D → Bool
  | .tuple (_ :: _) => true
  | _ => false
def isTupNone : D → Bool
  | .tuple _ => true
  | .none => true
  | _ => false
def sortOk (ds : List D) : Bool := ds.all (fun a => ds.all fun b => PySem.W.alike a b) && (ds.all isTup1 || ds.all fun a => !isTupNone a) && ds.all (fun d => d.canLay0 && decide (d.depth ≤ 32))
/-- a is put ahead of the first that is not less -/
def insD (a : D) : List D → List D
  | [] => [a]
  | b :: l => if ltD b a then b :: insD a l else a :: b :: l
def sortD : List D → List D
  | [] => []
  | a :: l => insD a (sortD l)
theorem ltD_neg (a b c : D) (h : ltD a c = true) : ltD a b = true ∨ ltD b c = true := by
  simp only [ltD_eq] at *
  exact PyProof.Rows.lex_negTrans _ _ _ h
theorem ltD_asym (a b : D) (h : ltD a b = true) : ltD b a = false := by
  simp only [ltD_eq] at *
  cases e : PySem.W.dataLt b a with
  | false => rfl
  | true =>
    have z : PyProof.Rows.lexLt PyProof.Rows.itemOrd (PySem.W.keyToks a) (PySem.W.keyToks a) = true := PyProof.Rows.lex_trans _ _ _ h e
    rw [PyProof.Rows.lex_irrefl] at z
    cases z
theorem leD_trans (a b c : D) (h1 : (!ltD b a) = true) (h2 : (!ltD c b) = true) : (!ltD c a) = true := by
  rw [Bool.not_eq_true'] at *
  cases e : ltD c a with
  | false => rfl
  | true =>
    rcases ltD_neg c b a e with z | z
    · rw [z] at h2; cases h2
    · rw [z] at h1; cases h1
theorem leD_total (a b : D) : ((!ltD b a) || (!ltD a b)) = true := by
  cases e : ltD b a with
  | false => rfl
  | true => rw [ltD_asym _ _ e]; rfl
theorem insD_mid (a : D) : ∀ (l r : List D), (∀ b ∈ l, ltD b a = true) → (∀ b, r.head? = some b → ltD b a = false) → insD a (l ++ r) = l ++ a :: r
  | [], [], _, _ => rfl
  | [], b :: r, _, h => by
    have : ltD b a = false := h b rfl
    simp [insD, this]
  | b :: l, r, h1, h2 => by
    have : ltD b a = true := h1 b (List.mem_cons_self ..)
    simp [insD, this, insD_mid a l r (fun c hc => h1 c (List.mem_cons_of_mem _ hc)) h2]
theorem sortD_eq : ∀ ds : List D, sortD ds = ds.mergeSort fun a b => !ltD b a
  | [] => by simp [sortD]
  | a :: l => by
    obtain ⟨l1, l2, e1, e2, h⟩ := List.mergeSort_cons (le := fun a b => !ltD b a) (fun a b c => leD_trans a b c) leD_total a l
    have sd := List.pairwise_mergeSort (le := fun a b => !ltD b a) (fun a b c => leD_trans a b c) leD_total (a :: l)
    rw [e1] at sd
    have sd2 := (List.pairwise_append.mp sd).2.1
    unfold sortD
    rw [sortD_eq l, e1, e2]
    refine insD_mid a l1 l2 (fun b hb => by simpa using h b hb) fun b hb => ?_
    have : b ∈ l2 := List.mem_of_mem_head? hb
    simpa using (List.pairwise_cons.mp sd2).1 b this
def opSorted : List D → Option A
  | [.list ds] => if sortOk ds then some (.l (sortD ds)) else none
  | [.tuple ds] => none
  | _ => none
def opTuple : List D → Option A
  | [.list ds] => some (.d (.tuple ds))
  | [.tuple ds] => some (.d (.tuple ds))
  | _ => none
def opList : List D → Option A
  | [.list ds] => some (.l ds)
  | [.tuple ds] => some (.l ds)
  | _ => none
section
variable {P : Program} {w : World} {K : PySem.W.Frag} {H H' : Hp} {E : XK} {X : Cx} {Tb : List (Addr × Str)}
theorem ops_tuple : OpS P w K (fun xs H Q => ∃ p ys, xs = [.ref p] ∧ ((SqL K H p ys ∧ ∀ l, H l = none → Q (.ref l) (upd H l (.tup ys))) ∨ (SqT K H p ys ∧ Q (.ref p) H))) opTuple := by
  intro H vs ds z Q r e k
  unfold opTuple at e
  split at e
  · obtain ⟨x, rfl, hx⟩ := r.one
    cases e
    obtain ⟨a, vs, rfl, hs, r1⟩ := hx.lst
    exact ⟨a, vs, rfl, .inl ⟨hs, fun l hl => k _ _ (same_upd hl) (.tup hl r1)⟩⟩
  · obtain ⟨x, rfl, hx⟩ := r.one
    cases e
    obtain ⟨a, vs, rfl, hs, r1⟩ := hx.tup
    exact ⟨a, vs, rfl, .inr ⟨hs, k _ _ (Same.refl H) (.of (.tup hs r1))⟩⟩
  · cases e
theorem ops_list : OpS P w K (fun xs H Q => ∃ p ys, xs = [.ref p] ∧ (SqL K H p ys ∨ SqT K H p ys) ∧ ∀ l, H l = none → Q (.ref l) (upd H l (.lst ys))) opList := by
  intro H vs ds z Q r e k
  unfold opList at e
  split at e
  · obtain ⟨x, rfl, hx⟩ := r.one
    cases e
    obtain ⟨a, vs, rfl, hs, r1⟩ := hx.lst
    exact ⟨a, vs, rfl, .inl hs, fun l hl => k _ _ (same_upd hl) (.lst hl r1)⟩
  · obtain ⟨x, rfl, hx⟩ := r.one
    cases e
    obtain ⟨a, vs, rfl, hs, r1⟩ := hx.tup
    exact ⟨a, vs, rfl, .inr hs, fun l hl => k _ _ (same_upd hl) (.lst hl r1)⟩
  · cases e
/-- sorted: the values stand for the sorted data -/
def rSortD (P : Program) (w : World) (K : PySem.W.Frag) : List V → Hp → VK → Prop := fun vs H Q => ∃ a xs ds, vs = [.ref a] ∧ SqL K H a xs ∧ PRs P w K H xs ds ∧ sortOk ds = true ∧
  ∀ p ys, H p = none → PRs P w K H ys (sortD ds) → Q (.ref p) (upd H p (.lst ys))
theorem sortD_len (ds : List D) : (sortD ds).length = ds.length := by rw [sortD_eq]; exact List.length_mergeSort ..
theorem ops_sorted : OpS P w K (rSortD P w K) opSorted := by
  intro H vs ds z Q r e k
  unfold opSorted at e
  split at e
  · obtain ⟨x, rfl, hx⟩ := r.one
    split at e
    · rename_i h
      cases e
      obtain ⟨a, vs, rfl, hs, r1⟩ := hx.lst
      exact ⟨a, vs, _, rfl, hs, r1, h, fun p ys hp r2 => k _ _ (same_upd hp) (.lst hp r2)⟩
    · cases e
  · cases e
  · cases e
def VD (P : Program) (w : World) (K : PySem.W.Frag) (H : Hp) (u : Value) (d : D) : Prop := ∃ v, RelV v u ∧ PR P w K H v d
theorem each_of {xs : List V} {us : List Value} {ds : List D} (r : Vals xs us) (p : PRs P w K H xs ds) : PySem.W.EachIs (VD P w K H) us ds := by
  induction r generalizing ds with
  | nil => cases p; exact .nil
  | cons h _ ih => cases p with | cons h2 t => exact .cons ⟨_, h, h2⟩ (ih t)
theorem of_each {us : List Value} {ds : List D} (h : PySem.W.EachIs (VD P w K H) us ds) : ∃ xs, Vals xs us ∧ PRs P w K H xs ds := by
  induction h with
  | nil => exact ⟨[], .nil, .nil⟩
  | cons h _ ih =>
    obtain ⟨v, r, p⟩ := h
    obtain ⟨xs, r2, p2⟩ := ih
    exact ⟨v :: xs, .cons r r2, .cons p p2⟩
theorem sortOk_of {ds : List D} (h : sortOk ds = true) : PySem.W.AllAlike (ds.map id) ∧ PySem.W.Sortable (ds.map id) ∧ (∀ d ∈ ds, d.canLay0 = true ∧ d.depth ≤ 32) := by
  unfold sortOk at h
  simp only [Bool.and_eq_true, Bool.or_eq_true, List.all_eq_true, decide_eq_true_eq] at h
  obtain ⟨⟨h1, h2⟩, h3⟩ := h
  rw [List.map_id]
  refine ⟨fun d hd d' hd' => h1 d hd d' hd', ?_, h3⟩
  rcases h2 with h2 | h2
  · refine .inl fun d hd => ?_
    have := h2 d hd
    unfold isTup1 at this
    split at this
    · exact ⟨_, _, rfl⟩
    · cases this
  · refine .inr fun d hd => ?_
    have := h2 d hd
    exact ⟨fun z => by subst z; simp [isTupNone] at this, fun xs z => by subst z; simp [isTupNone] at this⟩
theorem dataLe_sort : (PySem.W.dataLe false (id : D → D)) = fun a b => !ltD b a := by
  rw [PySem.W.dataLe_eq]
  funext a b
  show (!PySem.W.dataLt b a) = !ltD b a
  rw [ltD_eq]
theorem cr_sortD (hu : X.A.units + 64 < cLine) : CallR X (.builtin "sorted") (rSortD X.prog X.w X.K) := by
  intro pins s σ H vs us Q I r ⟨a, xs, ds, e, hs, p, ok, q⟩
  subst e
  obtain ⟨its, rv, hl, hz⟩ := I.list hs
  rw [Vals.ref1 r]
  obtain ⟨h1, h2, h3⟩ := sortOk_of ok
  have each := each_of rv p
  have er : PySem.W.EachIs (fun v b => ∃ as, Reads s.heap v (id b) as) its ds := by
    clear q hl hs h1 h2 hz r ok each
    induction rv generalizing ds with
    | nil => cases p; exact .nil
    | cons h _ ih => cases p with
      | cons hp t =>
        obtain ⟨as, r⟩ := Dp.reads I _ _ _ (PR.dp hp (h3 _ (List.mem_cons_self ..)).1) h
        exact .cons ⟨as, r⟩ (ih _ t fun d hd => h3 d (List.mem_cons_of_mem _ hd))
  refine PySem.W.sorted_data (enc := id) hl.isList each er h1 h2 (by rw [← p.length]; exact hz) (fun b hb => ?_) fun out ho eo => ?_
  · have := (h3 b hb).2
    show X.A.units + 2 + b.depth < cLine
    omega
  · rw [dataLe_sort] at eo
    obtain ⟨ys, ry, py⟩ := of_each eo
    obtain ⟨ep, he'⟩ := PyProof.Rows.sortedAll_at s.heap its out.toArray
    have hlen : ys.length ≤ sizeLine := by rw [py.length]; rw [← sortD_eq, sortD_len, ← p.length]; exact hz
    exact ⟨.ref _, upd H (s.heap.objs.size + 1) (.lst ys), I.laid (t' := s.toks) (fun _ _ => PyProof.Rows.sortedAll_old) (Nat.le_succ _) ⟨hlen, out, ep, ry, he'⟩, rfl, q _ ys (I.hok.fresh (Nat.le_succ _)) (by rw [sortD_eq]; exact py)⟩
end
end Iv
set_option Elab.async false
set_option linter.all false
set_option maxRecDepth 100000
set_option maxHeartbeats 1000000
/-! Iv, statements. -/
namespace Iv
open PySem L2

inductive Fw where
  | nx | bk | ct | rt (x : A)
/-- may this slot be bound anew? (a lent container's slot may not) -/
def canSet (Γ : Env) (i : Nat) : Bool := match Γ[i]? with
  | some (.c f x) => f.own || !x.isC
  | some _ => true
  | none => false
def setA (i : Nat) (x : A) : M Unit := fun Γ => if canSet Γ i then some (.ok ((), Γ.set i (.c ⟨true⟩ x))) else none
def evSeq (f g : M Fw) : M Fw := fun Γ => bnd (f Γ) fun fl Γ => match fl with
  | .nx => g Γ
  | fl => some (.ok (fl, Γ))
def evNext : M Fw := fun Γ => some (.ok (.nx, Γ))
def evSet (i : Nat) (f : M R) : M Fw := fun Γ => bnd (f Γ) fun r Γ => match r with
  | .a x => bnd (setA i x Γ) fun _ Γ => some (.ok (.nx, Γ))
  | .sl _ => none
def evIf (t : M Bool) (f g : M Fw) : M Fw := fun Γ => bnd (t Γ) fun b Γ => if b then f Γ else g Γ
/-- what is handed back: data, a new container, an own one -/
def evRet (f : M R) : M Fw := fun Γ => bnd (f Γ) fun r Γ => match r with
  | .a x => some (.ok (.rt x, Γ))
  | .sl i => match Γ[i]? with
    | some (.c fl x) => if fl.own || !x.isC then some (.ok (.rt x, Γ)) else none
    | _ => none
def evDrop (f : M R) : M Fw := fun Γ => bnd (f Γ) fun _ Γ => some (.ok (.nx, Γ))
/-- a name, its container frozen -/
def evFzv (i : Nat) : M R := fun Γ => match Γ[i]? with
  | some (.c f x) => if x.isC then (if f.own then some (.ok (.a (.d x.rd), Γ.set i (.c f (.d x.rd)))) else none) else some (.ok (.a x, Γ))
  | _ => none
section
variable {P : Program} {w : World} {K : PySem.W.Frag} {Tb : List (Addr × Str)} {c : Ctx Tb} {Γ Γ' Γ1 Γ2 : Env} {σ σ' : L2.St} {H H' H1 H2 : Hp} {E : XK} {X : Cx} {D : Ends}
def RtRep (P : Program) (w : World) (K : PySem.W.Frag) {Tb : List (Addr × Str)} (c : Ctx Tb) (H' : Hp) (v : V) (x : A) : Prop := ARep P w K H' v x ∧ (x.isC = true → ∃ p, v = .ref p ∧ c.H0 p = none)
def SPost (P : Program) (w : World) (K : PySem.W.Frag) {Tb : List (Addr × Str)} (c : Ctx Tb) (H : Hp) (D : Ends) (fl : Fw) (Γ' : Env) : Prop := match fl with
  | .nx => ∀ σ' H', SRel P w K c Γ' σ' H' → Pers H H' → D.nx σ' H'
  | .bk => ∀ σ' H', SRel P w K c Γ' σ' H' → Pers H H' → D.bk σ' H'
  | .ct => ∀ σ' H', SRel P w K c Γ' σ' H' → Pers H H' → D.ct σ' H'
  | .rt x => ∀ v σ' H', SRel P w K c Γ' σ' H' → Pers H H' → RtRep P w K c H' v x → D.rt v H'
theorem SPost.pers {fl : Fw} (h : SPost P w K c H D fl Γ') (p : Pers H H1) : SPost P w K c H1 D fl Γ' := by
  cases fl with
  | nx => exact fun σ' H' S q => h σ' H' S (p.trans q)
  | bk => exact fun σ' H' S q => h σ' H' S (p.trans q)
  | ct => exact fun σ' H' S q => h σ' H' S (p.trans q)
  | rt x => exact fun v σ' H' S q r => h v σ' H' S (p.trans q) r
def tS (P : Program) (w : World) (K : PySem.W.Frag) (Tb : List (Addr × Str)) (f : M Fw) (E : XK) : TS := fun D σ H => ∃ (c : Ctx Tb) (Γ : Env), SRel P w K c Γ σ H ∧
  Aft (f Γ) (fun x => XPost P w K c x E) fun fl Γ' => SPost P w K c H D fl Γ'
theorem tS_on {f : M Fw} (S : SRel P w K c Γ1 σ H1) (p : Pers H H1) (q : Aft (f Γ1) (fun x => XPost P w K c x E) fun fl Γ' => SPost P w K c H D fl Γ') : tS P w K Tb f E D σ H1 :=
  ⟨c, Γ1, S, q.imp fun fl Γ' _ h => h.pers p⟩
theorem PSs.weak {e : List Stmt} {t t' : TS} (h : PSs X e t) (w : ∀ D σ H, t' D σ H → t D σ H) : PSs X e t' := ⟨fun pins s σ H D I q => h.run pins s σ H D I (w D σ H q)⟩
theorem pss_nilE : PSs X [] (tS P w K Tb evNext E) := PSs.weak pss_nil fun D σ H ⟨c, Γ, S, q⟩ => (show SPost P w K c H D .nx Γ from q) σ H S (Pers.refl H)
theorem pss_consE {st : Stmt} {rest : List Stmt} {f g : M Fw} (h1 : PS X st (tS P w K Tb f E)) (h2 : PSs X rest (tS P w K Tb g E)) : PSs X (st :: rest) (tS P w K Tb (evSeq f g) E) := by
  refine PSs.weak (pss_cons h1 h2) fun D σ H ⟨c, Γ, S, q⟩ => ⟨c, Γ, S, (Aft_bnd.mp q).imp fun fl Γ1 _ q => ?_⟩
  cases fl with
  | nx => exact fun σ' H' S' p => tS_on S' p q
  | bk => exact q
  | ct => exact q
  | rt x => exact q
theorem ps_passE {pos : Pos} : PS X (.Pass pos) (tS P w K Tb evNext E) := PS.weak ps_pass fun D σ H ⟨c, Γ, S, q⟩ => (show SPost P w K c H D .nx Γ from q) σ H S (Pers.refl H)
theorem ps_docE {x : Str} {j : Nat} {pos pos' : Pos} : PS X (.Expr (.Constant (.str x) j pos) pos') (tS P w K Tb evNext E) := PS.weak ps_doc fun D σ H ⟨c, Γ, S, q⟩ => (show SPost P w K c H D .nx Γ from q) σ H S (Pers.refl H)
theorem ps_breakE {pos : Pos} : PS X (.Break pos) (tS P w K Tb (fun Γ => some (.ok (.bk, Γ))) E) := PS.weak ps_break fun D σ H ⟨c, Γ, S, q⟩ => (show SPost P w K c H D .bk Γ from q) σ H S (Pers.refl H)
theorem ps_contE {pos : Pos} : PS X (.Continue pos) (tS P w K Tb (fun Γ => some (.ok (.ct, Γ))) E) := PS.weak ps_continue fun D σ H ⟨c, Γ, S, q⟩ => (show SPost P w K c H D .ct Γ from q) σ H S (Pers.refl H)
theorem ps_ifE {t : Expr} {a b : List Stmt} {pos : Pos} {h : M Bool} {f g : M Fw} (ht : PT X t (tT P w K Tb h E)) (ha : PSs X a (tS P w K Tb f E)) (hb : PSs X b (tS P w K Tb g E)) : PS X (.If t a b pos) (tS P w K Tb (evIf h f g) E) := by
  refine PS.weak (ps_if ht ha hb) fun D σ H ⟨c, Γ, S, q⟩ => ⟨c, Γ, S, (Aft_bnd.mp q).imp fun b Γ1 _ q H1 T => ?_⟩
  cases b with
  | true => exact tS_on T.rel T.pers q
  | false => exact tS_on T.rel T.pers q
theorem ps_retE {e : Expr} {pos : Pos} {f : M R} (he : PE X e (tE P w K Tb f E)) : PS X (.Return (some e) pos) (tS P w K Tb (evRet f) E) := by
  refine PS.weak (ps_ret he) fun D σ H ⟨c, Γ, S, q⟩ => ⟨c, Γ, S, (Aft_bnd.mp q).imp fun r Γ1 _ q v H1 T rr => ?_⟩
  cases r with
  | a x =>
    have q : SPost P w K c H D (.rt x) Γ1 := q
    exact q v σ H1 T.rel T.pers ⟨rr.1, fun hx => let ⟨p, e, hp, _⟩ := rr.2 hx; ⟨p, e, S.fresh hp⟩⟩
  | sl i =>
    obtain ⟨e1, fl, x, e2⟩ := rr
    simp only [e2] at q
    obtain ⟨v', e3, r⟩ := T.rel.rep i fl x e2
    rw [e1] at e3
    cases e3
    split at q
    · rename_i hf
      have q : SPost P w K c H D (.rt x) Γ1 := q
      refine q v σ H1 T.rel T.pers ⟨r, fun hx => ?_⟩
      obtain ⟨p, u, rfl, _⟩ := r.at_ hx
      refine ⟨p, rfl, T.rel.own i p fl x e2 hx e1 ?_⟩
      rw [hx] at hf
      simpa using hf
    · exact q.elim
theorem ps_retNE {pos : Pos} : PS X (.Return none pos) (tS P w K Tb (fun Γ => some (.ok (.rt (.d .none), Γ))) E) :=
  PS.weak ps_retN fun D σ H ⟨c, Γ, S, q⟩ => (show SPost P w K c H D (.rt (.d .none)) Γ from q) .non σ H S (Pers.refl H) ⟨.non, fun z => nomatch z⟩
theorem ps_exprE {e : Expr} {pos : Pos} {f : M R} (he : PE X e (tE P w K Tb f E)) (hs : swapsWith e none pos.line X.env = pure false) : PS X (.Expr e pos) (tS P w K Tb (evDrop f) E) := by
  refine PS.weak (ps_expr he hs) fun D σ H ⟨c, Γ, S, q⟩ => ⟨c, Γ, S, (Aft_bnd.mp q).imp fun r Γ1 _ q v H1 T rr => ?_⟩
  exact (show SPost P w K c H D .nx Γ1 from q) σ H1 T.rel T.pers

/-! ### a slot is bound -/
theorem canSet_lt {i : Nat} (h : canSet Γ i = true) : i < Γ.length := by
  unfold canSet at h
  split at h
  · rename_i e; exact (List.getElem?_eq_some_iff.mp e).1
  · rename_i e; exact (List.getElem?_eq_some_iff.mp e).1
  · cases h
/-- slot i is bound to a value: data, or a container that is nobody's -/
theorem SRel.set (S : SRel P w K c Γ σ H) {i : Nat} {v : V} {x : A} (h : canSet Γ i = true) (r : ARep P w K H v x) (n : x.isC = true → ∃ p, v = .ref p ∧ c.H0 p = none ∧ ∀ j, ¬ CAt Γ σ j p) : SRel P w K c (Γ.set i (.c ⟨true⟩ x)) (σ.set i (some v)) H := by
  have hi := canSet_lt h
  have hi' : i < σ.length := by rw [← S.len]; exact hi
  have cat : ∀ {j : Nat} {a : Addr}, CAt (Γ.set i (.c ⟨true⟩ x)) (σ.set i (some v)) j a → (j = i ∧ v = .ref a ∧ x.isC = true) ∨ (j ≠ i ∧ CAt Γ σ j a) := fun {j a} ⟨f, y, e1, hy, e2⟩ => by
    by_cases hj : j = i
    · subst hj
      rw [List.getElem?_set_self hi] at e1
      rw [List.getElem?_set_self hi'] at e2
      cases e1
      cases e2
      exact .inl ⟨rfl, rfl, hy⟩
    · rw [List.getElem?_set_ne (Ne.symm hj)] at e1 e2
      exact .inr ⟨hj, f, y, e1, hy, e2⟩
  refine ⟨by simp [S.len], fun j f y e => ?_, fun j k a h1 h2 => ?_, S.frame, S.tabs, S.there, fun j a f y e hy e2 ho => ?_, fun j a f y e hy e2 ho => ?_, fun j n e => (by
    by_cases hj : j = i
    · subst hj; rw [List.getElem?_set_self hi] at e; cases e
    · rw [List.getElem?_set_ne (Ne.symm hj)] at e ⊢; exact S.fns j n e)⟩
  · by_cases hj : j = i
    · subst hj
      rw [List.getElem?_set_self hi] at e
      cases e
      exact ⟨v, List.getElem?_set_self hi', r⟩
    · rw [List.getElem?_set_ne (Ne.symm hj)] at e ⊢
      exact S.rep j f y e
  · rcases cat h1 with ⟨rfl, ev, hx⟩ | ⟨n1, q1⟩
    · rcases cat h2 with ⟨rfl, _, _⟩ | ⟨n2, q2⟩
      · rfl
      · obtain ⟨p, ep, _, np⟩ := n hx
        rw [ev] at ep
        cases ep
        exact absurd q2 (np k)
    · rcases cat h2 with ⟨rfl, ev, hx⟩ | ⟨n2, q2⟩
      · obtain ⟨p, ep, _, np⟩ := n hx
        rw [ev] at ep
        cases ep
        exact absurd q1 (np j)
      · exact S.apart j k a q1 q2
  · by_cases hj : j = i
    · subst hj
      rw [List.getElem?_set_self hi] at e
      rw [List.getElem?_set_self hi'] at e2
      cases e
      cases e2
      obtain ⟨p, ep, h0, _⟩ := n hy
      cases ep
      exact h0
    · rw [List.getElem?_set_ne (Ne.symm hj)] at e e2
      exact S.own j a f y e hy e2 ho
  · by_cases hj : j = i
    · subst hj
      rw [List.getElem?_set_self hi] at e
      cases e
      cases ho
    · rw [List.getElem?_set_ne (Ne.symm hj)] at e e2
      exact S.bor j a f y e hy e2 ho
theorem ps_setE {st : Stmt} {i : Nat} {f : M R} (h : PS X st (tAsg (tE P w K Tb f E) (gName i))) : PS X st (tS P w K Tb (evSet i f) E) := by
  refine PS.weak h fun D σ H ⟨c, Γ, S, q⟩ => ⟨c, Γ, S, (Aft_bnd.mp q).imp fun r Γ1 _ q v H1 T rr => ?_⟩
  cases r with
  | sl j => exact q.elim
  | a x =>
    have q := Aft_bnd.mp q
    unfold setA at q
    split at q
    · rename_i hc
      have q : SPost P w K c H D .nx (Γ1.set i (.c ⟨true⟩ x)) := q
      exact q _ _ (T.rel.set hc rr.1 fun hx => let ⟨p, e, hp, np⟩ := rr.2 hx; ⟨p, e, S.fresh hp, np⟩) T.pers
    · exact q.elim
/-- slot i's container is frozen -/
theorem SRel.frzSlot (S : SRel P w K c Γ σ H) {i : Nat} {f : Fl} {x : A} {a : Addr} {u : HO} {o : Obj} (e : Γ[i]? = some (.c f x)) (hx : x.isC = true) (ho : f.own = true) (ev : σ[i]? = some (some (.ref a))) (hu : H a = some u) (fu : frzable u = true) (fc : Cont P w a u) (pr : PR P w K (upd H a (.frz o u)) (.ref a) x.rd) :
    Stp P w K c Γ σ H (Γ.set i (.c f (.d x.rd))) (upd H a (.frz o u)) := by
  have hi := (List.getElem?_eq_some_iff.mp e).1
  have pe : Pers H (upd H a (.frz o u)) := by
    refine ⟨fun b xs q => ?_, fun b o' u' q => ?_⟩
    all_goals
      have : b ≠ a := fun z => by subst z; rw [hu] at q; cases q; cases fu
      rw [upd_ne this]; exact q
  have shp : ∀ j b, CAt (Γ.set i (.c f (.d x.rd))) σ j b → CAt Γ σ j b ∧ j ≠ i := fun j b ⟨g, y, e1, hy, e2⟩ => by
    by_cases hj : j = i
    · subst hj
      rw [List.getElem?_set_self hi] at e1
      cases e1
      cases hy
    · rw [List.getElem?_set_ne (Ne.symm hj)] at e1
      exact ⟨⟨g, y, e1, hy, e2⟩, hj⟩
  have h0 : c.H0 a = none := S.own i a f x e hx ev ho
  have keep : ∀ b o', H b = some o' → b ≠ a → upd H a (.frz o u) b = some o' := fun b o' q z => by rw [upd_ne z]; exact q
  refine ⟨⟨by simp [S.len], fun j g y e1 => ?_, fun j k b h1 h2 => S.apart j k b (shp j b h1).1 (shp k b h2).1, fun b o' q t n => ?_, tabs_upd S.tabs hu fc, fun j b q z => ?_, fun j b g y e1 hy e2 hg => ?_, fun j b g y e1 hy e2 hg => ?_, fun j n e => (by
    by_cases hj : j = i
    · subst hj; rw [List.getElem?_set_self hi] at e; cases e
    · rw [List.getElem?_set_ne (Ne.symm hj)] at e; exact S.fns j n e)⟩, fun b o' q t n => ?_, pe, fun p q => ?_, fun j b h => (shp j b h).1, fun j g y e1 => ?_⟩
  · by_cases hj : j = i
    · subst hj
      rw [List.getElem?_set_self hi] at e1
      cases e1
      exact ⟨_, ev, pr⟩
    · rw [List.getElem?_set_ne (Ne.symm hj)] at e1
      obtain ⟨v, e2, r⟩ := S.rep j g y e1
      refine ⟨v, e2, ?_⟩
      cases hy : y.isC with
      | false => cases y with
        | d y => exact PR.mono pe r
        | _ => cases hy
      | true =>
        refine r.keep pe fun b u' eb q => keep b u' q fun z => hj ?_
        subst z eb
        exact S.apart j i b ⟨g, y, e1, hy, e2⟩ ⟨f, x, e, hx, ev⟩
  · exact keep b o' (S.frame b o' q t n) fun z => by subst z; rw [h0] at q; cases q
  · by_cases y : b = a
    · subst y; rw [upd_same] at z; cases z
    · rw [upd_ne y] at z; exact S.there j b q z
  · by_cases hj : j = i
    · subst hj; rw [List.getElem?_set_self hi] at e1; cases e1; cases hy
    · rw [List.getElem?_set_ne (Ne.symm hj)] at e1; exact S.own j b g y e1 hy e2 hg
  · by_cases hj : j = i
    · subst hj; rw [List.getElem?_set_self hi] at e1; cases e1; cases hy
    · rw [List.getElem?_set_ne (Ne.symm hj)] at e1; exact S.bor j b g y e1 hy e2 hg
  · exact keep b o' q fun z => by subst z; exact n i ⟨f, x, e, hx, ev⟩
  · by_cases y : p = a
    · subst y; rw [upd_same] at q; cases q
    · rw [upd_ne y] at q; exact q
  · by_cases hj : j = i
    · subst hj; exact ⟨_, _, List.getElem?_set_self hi⟩
    · exact ⟨g, y, by rw [List.getElem?_set_ne (Ne.symm hj)]; exact e1⟩
theorem pe_fzv {i : Nat} {x : Str} {pos : Pos} (hN : X.N[i]? = some x) (hv : Vis X.env.scope x) (hd : (x == ("__debug__" : Str)) = false) (hcd : (x == ("__classdict__" : Str)) = false) : PE X (.Name x pos) (tE P w K Tb (evFzv i) E) := by
  refine PE.weak (pe_fz (pe_var hN hv hd hcd)) fun σ H Q ⟨c, Γ, S, q⟩ => ?_
  unfold evFzv at q
  cases e : Γ[i]? with
  | none => rw [e] at q; exact q.elim
  | some s =>
    rw [e] at q
    cases s with
    | un => exact q.elim
    | fn => exact q.elim
    | c f x =>
      obtain ⟨v, e1, r⟩ := S.rep i f x e
      refine ⟨v, e1, ?_⟩
      cases hx : x.isC with
      | false =>
        simp only [hx, Bool.false_eq_true, if_false] at q
        exact .inl (q v H (Stp.refl S) ⟨r, fun z => absurd hx (by rw [z]; decide)⟩)
      | true =>
        simp only [hx, if_true] at q
        split at q
        · rename_i ho
          obtain ⟨p, u, rfl, hu, fc⟩ := r.cont hx
          refine .inr ⟨p, u, rfl, hu, (r.frozen (o := default) hu hx).1, fun o => ?_⟩
          obtain ⟨fu, pr⟩ := r.frozen (o := o) hu hx
          exact q _ _ (S.frzSlot e hx ho e1 hu fu fc pr) ⟨pr, fun z => nomatch z⟩
        · exact q.elim
/-- slot i's container changes its content -/
theorem SRel.put (S : SRel P w K c Γ σ H) {i : Nat} {f : Fl} {x x' : A} {a : Addr} {u : HO} (e : Γ[i]? = some (.c f x)) (hx : x.isC = true) (hx' : x'.isC = true) (ev : σ[i]? = some (some (.ref a))) (r : ARep P w K (upd H a u) (.ref a) x') :
    Stp P w K c Γ σ H (Γ.set i (.c f x')) (upd H a u) := by
  have hi := (List.getElem?_eq_some_iff.mp e).1
  have hcat : CAt Γ σ i a := ⟨f, x, e, hx, ev⟩
  have pe : Pers H (upd H a u) := by
    refine ⟨fun b xs q => ?_, fun b o' u' q => ?_⟩
    all_goals
      have : b ≠ a := fun z => by subst z; obtain ⟨u0, z, hc⟩ := S.cat hcat; rw [q] at z; cases z; cases hc
      rw [upd_ne this]; exact q
  have cat : ∀ j b, CAt (Γ.set i (.c f x')) σ j b → CAt Γ σ j b := fun j b ⟨g, y, e1, hy, e2⟩ => by
    by_cases hj : j = i
    · subst hj
      exact ⟨f, x, e, hx, e2⟩
    · rw [List.getElem?_set_ne (Ne.symm hj)] at e1
      exact ⟨g, y, e1, hy, e2⟩
  have keep : ∀ b o', H b = some o' → b ≠ a → upd H a u b = some o' := fun b o' q z => by rw [upd_ne z]; exact q
  refine ⟨⟨by simp [S.len], fun j g y e1 => ?_, fun j k b h1 h2 => S.apart j k b (cat j b h1) (cat k b h2), fun b o' q t n => ?_, (let ⟨u0, hu0, hc0⟩ := S.cat hcat; tabs_upd S.tabs hu0 hc0), fun j b q z => ?_, fun j b g y e1 hy e2 hg => ?_, fun j b g y e1 hy e2 hg => ?_, fun j n e => (by
    by_cases hj : j = i
    · subst hj; rw [List.getElem?_set_self hi] at e; cases e
    · rw [List.getElem?_set_ne (Ne.symm hj)] at e; exact S.fns j n e)⟩, fun b o' q t n => ?_, pe, fun p q => ?_, cat, fun j g y e1 => ?_⟩
  · by_cases hj : j = i
    · subst hj
      rw [List.getElem?_set_self hi] at e1
      cases e1
      exact ⟨_, ev, r⟩
    · rw [List.getElem?_set_ne (Ne.symm hj)] at e1
      obtain ⟨v, e2, r⟩ := S.rep j g y e1
      refine ⟨v, e2, ?_⟩
      cases hy : y.isC with
      | false => cases y with
        | d y => exact PR.mono pe r
        | _ => cases hy
      | true =>
        refine r.keep pe fun b u' eb q => keep b u' q fun z => hj ?_
        subst z eb
        exact S.apart j i b ⟨g, y, e1, hy, e2⟩ hcat
  · refine keep b o' (S.frame b o' q t n) fun z => ?_
    subst z
    cases hf : f.own with
    | true => rw [S.own i b f x e hx ev hf] at q; cases q
    | false => exact n i (S.bor i b f x e hx ev hf)
  · by_cases y : b = a
    · subst y; rw [upd_same] at z; cases z
    · rw [upd_ne y] at z; exact S.there j b q z
  · by_cases hj : j = i
    · subst hj; rw [List.getElem?_set_self hi] at e1; cases e1; exact S.own j b f x e hx e2 hg
    · rw [List.getElem?_set_ne (Ne.symm hj)] at e1; exact S.own j b g y e1 hy e2 hg
  · by_cases hj : j = i
    · subst hj; rw [List.getElem?_set_self hi] at e1; cases e1; exact S.bor j b f x e hx e2 hg
    · rw [List.getElem?_set_ne (Ne.symm hj)] at e1; exact S.bor j b g y e1 hy e2 hg
  · exact keep b o' q fun z => by subst z; exact n i hcat
  · by_cases y : p = a
    · subst y; rw [upd_same] at q; cases q
    · rw [upd_ne y] at q; exact q
  · by_cases hj : j = i
    · subst hj; exact ⟨_, _, List.getElem?_set_self hi⟩
    · exact ⟨g, y, by rw [List.getElem?_set_ne (Ne.symm hj)]; exact e1⟩
end
end Iv
set_option Elab.async false
set_option linter.all false
set_option maxRecDepth 100000
set_option maxHeartbeats 1000000
/-! Iv: methods that change a slot's container; a slot's item stored. -/
namespace Iv
open PySem L2

inductive Kd where
  | lst | dct
def Kd.nm : Kd → String
  | .lst => "list"
  | .dct => "dict"
def kd : A → Option Kd
  | .l _ => some .lst
  | .m _ => some .dct
  | .d _ => none
def isKd (Γ : Env) (i : Nat) (k : Kd) : Bool := match k, slA Γ i with
  | .lst, some (.l _) => true
  | .dct, some (.m _) => true
  | _, _ => false
/-- a method on a slot's container: the arguments stay (datas) or are read (conts) -/
def evMut (i : Nat) (k : Kd) (op : A → List D → Option (A × D)) (rd : Bool) (g : M (List R)) : M R := fun Γ => if isKd Γ i k then bnd (g Γ) fun rs Γ => match (if rd then conts Γ rs else datas rs), Γ[i]? with
    | some ds, some (.c f x) => match op x ds with
      | some (x', z) => if x.isC && x'.isC then some (.ok (.a (.d z), Γ.set i (.c f x'))) else none
      | none => none
    | _, _ => none
  else none
section
variable {P : Program} {w : World} {K : PySem.W.Frag} {Tb : List (Addr × Str)} {c : Ctx Tb} {Γ Γ' Γ1 Γ2 : Env} {σ σ' : L2.St} {H H' H1 H2 : Hp} {E : XK} {X : Cx} {D : Ends}
def TyP (X : Cx) (T : String) (x : V) (H : Hp) : Prop := ∀ (pins : List (Addr × Obj)) (σ : L2.St) (s : Shared) (v : Value), Inv X pins σ H s → RelV x v → s.TypeIs v T ∧ ∀ a, v = .ref a → ∃ ob, s.heap.get? a = some ob ∧ ob.dict = none
theorem few_args {es : List Expr} {cpos : Pos} {env : PySem.Env} (h : es.all nst = true) (hl : es.length < 20) : ((backTo cpos (starEach es env)).all (fun x => !x.1) && (backToKw cpos (keywordEach [] env)).all (fun x => x.1.isSome)
      && decide (es.length + ([] : List Keyword).length + (if ([] : List Keyword).isEmpty then 0 else 1) < 30)) = true := by
  have h1 : (backTo cpos (starEach es env)).all (fun x => !x.1) = true := by
    have := star_any (env := env) (pos := cpos) h
    rw [List.all_eq_true]
    intro x hx
    cases e : x.1 with
    | false => rfl
    | true =>
      have : (backTo cpos (starEach es env)).any (·.1) = true := List.any_eq_true.mpr ⟨x, hx, e⟩
      simp_all
  rw [h1]
  simp only [keywordEach, backToKw, List.map_nil, List.all_nil, Bool.true_and, List.length_nil, List.isEmpty_nil, if_true, decide_eq_true_eq]
  omega
theorem pe_bmG {o e : Expr} {es : List Expr} {to : TE} {t : TA} {name : Str} {apos cpos : Pos} {T id : String} {r : V → List V → Hp → VK → Prop} (pa : PlainAttrs T) (slot : Slot T name id) (hty : typeOf (.builtin id) = pure (.type "method_descriptor")) (hm : MtR X id r) (ho : PE X o to) (ha : PA X (e :: es) t)
    (hbase : attributeBase o name X.env (eval o X.env) = eval o X.env) (hst : (e :: es).all nst = true) (hl : (e :: es).length < 20) (hline : (apos.endLine == cpos.line) = true) :
    PE X (.Call (.Attribute o name apos) (e :: es) [] cpos) (fun σ H Q => to σ H fun x H1 => TyP X T x H1 ∧ t σ H1 fun xs H2 => r x xs H2 Q) := by
  refine ⟨fun pins s σ H Q I h => ?_⟩
  have h2 := Bool.and_eq_true_iff.mp hst
  refine wpAny_Call_method_late hbase (few_args hst hl) hline rfl (thn (ho.run pins s σ H _ I h) fun v s1 ⟨x, H1, I1, r1, ty, q1⟩ => ?_)
  obtain ⟨h1, h3⟩ := ty pins σ s1 v I1 r1
  refine ⟨T, id, pa, slot, hty, h1, h3, ?_⟩
  have hA := ha.run cpos pins s1 σ H1 _ I1 q1
  rw [star_cons h2.1] at hA ⊢
  refine Calls.callWith_builtin (by show (false || (backTo cpos (starEach es X.env)).any (·.1)) = false; rw [star_any h2.2] <;> rfl) (Calls.evalArgs_plain ?_)
  exact thn hA fun us s2 ⟨vs, H2, I2, r2, q2⟩ => hm pins s2 σ H2 x vs v us Q I2 r1 r2 q2
theorem pe_bmG0 {o : Expr} {to : TE} {name : Str} {apos cpos : Pos} {T id : String} {r : V → List V → Hp → VK → Prop} (pa : PlainAttrs T) (slot : Slot T name id) (hty : typeOf (.builtin id) = pure (.type "method_descriptor")) (hm : MtR X id r) (ho : PE X o to)
    (hbase : attributeBase o name X.env (eval o X.env) = eval o X.env) (hline : (apos.endLine == cpos.line) = true) : PE X (.Call (.Attribute o name apos) [] [] cpos) (fun σ H Q => to σ H fun x H1 => TyP X T x H1 ∧ r x [] H1 Q) := by
  refine ⟨fun pins s σ H Q I h => ?_⟩
  refine wpAny_Call_method0_late hbase hline (thn (ho.run pins s σ H _ I h) fun v s1 ⟨x, H1, I1, r1, ty, q1⟩ => ?_)
  obtain ⟨h1, h2⟩ := ty pins σ s1 v I1 r1
  exact ⟨T, id, pa, slot, hty, h1, h2, Calls.callWith_builtin rfl (PySem.evalArgs_none (hm pins s1 σ H1 x [] v [] Q I1 r1 .nil q1))⟩
theorem base_name {x : Str} {p : Pos} {name : Str} {env : PySem.Env} {e : Sem Value} : attributeBase (.Name x p) name env e = e := rfl
/-- a container at its address is of its kind -/
theorem tyP_of {a : Addr} {x : A} {k : Kd} (r : ARep X.prog X.w K H (.ref a) x) (h : kd x = some k) : TyP X k.nm (.ref a) H := by
  intro pins σ s v I rv
  cases rv
  have dk : ∀ {u : HO} {ds : List (Iv.D × Iv.D)}, H a = some u → DU X.prog X.w K H a u ds → s.TypeIs (.ref a) "dict" ∧ ∀ b, Value.ref a = .ref b → ∃ ob, s.heap.get? b = some ob ∧ ob.dict = none := fun {u ds} e r => by
    have z : ∃ o, s.heap.get? a = some o ∧ o.ExactDict := by
      cases r with
      | k r => obtain ⟨_, _, _, _, o, _, _, e, ex, _⟩ := I.hok a _ e; exact ⟨o, e, ex⟩
      | t n r => obtain ⟨⟨_, _, _, o, _, _, e, ex, _⟩, _⟩ := I.hok a _ e; exact ⟨o, e, ex⟩
    obtain ⟨o, e, ex⟩ := z
    refine ⟨⟨o, e, ex.1⟩, fun b e2 => ?_⟩
    cases e2
    exact ⟨o, e, ex.2.1⟩
  cases x with
  | d x => cases h
  | l xs =>
    cases h
    obtain ⟨b, vs, e, hb, _⟩ := r
    cases e
    obtain ⟨its, _, pl, _⟩ := I.list (SqL.of hb)
    refine ⟨pl.isList.typeIs, fun b e => ?_⟩
    cases e
    obtain ⟨o, n, e, c, hd, _⟩ := pl
    exact ⟨o, e, hd⟩
  | m kvs =>
    cases h
    obtain ⟨b, u, e, hb, r⟩ := r
    cases e
    exact dk hb r
theorem isKd_of {i : Nat} {k : Kd} (h : isKd Γ i k = true) : ∃ f x, Γ[i]? = some (.c f x) ∧ kd x = some k := by
  unfold isKd slA at h
  cases e : Γ[i]? with
  | none => rw [e] at h; cases k <;> simp at h
  | some s =>
    rw [e] at h
    cases s with
    | un => cases k <;> simp at h
    | fn => cases k <;> simp at h
    | c f x =>
      refine ⟨f, x, rfl, ?_⟩
      cases k <;> cases x <;> simp [kd] at h ⊢
/-- what a method does: r does op -/
def MutS (P : Program) (w : World) (K : PySem.W.Frag) (r : V → List V → Hp → VK → Prop) (op : A → List Iv.D → Option (A × Iv.D)) (rd : Bool) : Prop := ∀ (H : Hp) (a : Addr) (vs : List V) (ds : List Iv.D) (x x' : A) (z : Iv.D) (Q : VK),
  ARep P w K H (.ref a) x → x.isC = true → (if rd then RRds P w K H vs ds else PRs P w K H vs ds) → op x ds = some (x', z) →
  (∀ u v, ARep P w K (upd H a u) (.ref a) x' → PR P w K (upd H a u) v z → Q v (upd H a u)) → r (.ref a) vs H Q
theorem pe_mutE {o e : Expr} {es : List Expr} {name : Str} {apos cpos : Pos} {id : String} {r : V → List V → Hp → VK → Prop} {i : Nat} {xn : Str} {p : Pos} {k : Kd} {op : A → List Iv.D → Option (A × Iv.D)} {rd : Bool} {g : M (List R)}
    (pa : PlainAttrs k.nm) (slot : Slot k.nm name id) (hty : typeOf (.builtin id) = pure (.type "method_descriptor")) (hm : MtR X id r) (hN : X.N[i]? = some xn) (hv : Vis X.env.scope xn) (hd : (xn == ("__debug__" : Str)) = false) (hcd : (xn == ("__classdict__" : Str)) = false)
    (ha : PA X (e :: es) (tA X.prog X.w X.K Tb g E)) (hst : (e :: es).all nst = true) (hl : (e :: es).length < 20) (hline : (apos.endLine == cpos.line) = true) (hs : MutS X.prog X.w X.K r op rd) :
    PE X (.Call (.Attribute (.Name xn p) name apos) (e :: es) [] cpos) (tE X.prog X.w X.K Tb (evMut i k op rd g) E) := by
  refine PE.weak (pe_bmG pa slot hty hm (pe_var hN hv hd hcd) ha base_name hst hl hline) fun σ H Q ⟨c, Γ, S, q⟩ => ?_
  unfold evMut at q
  split at q
  · rename_i hk
    obtain ⟨f, x, e, hx⟩ := isKd_of hk
    obtain ⟨v, e1, r⟩ := S.rep i f x e
    have hxC : x.isC = true := by cases x <;> first | rfl | cases hx
    obtain ⟨a, u, rfl, hu⟩ := r.at_ hxC
    refine ⟨_, e1, tyP_of r hx, c, Γ, S, (Aft_bnd.mp q).imp fun rs Γ1 _ q vs H1 T fr => ?_⟩
    obtain ⟨f1, x1, e2⟩ := T.defd i f x e
    simp only [e2] at q
    obtain ⟨v1, e3, r1⟩ := T.rel.rep i f1 x1 e2
    rw [e1] at e3
    cases e3
    have args : ∀ ds, (if rd = true then conts Γ1 rs else datas rs) = some ds → (if rd then RRds X.prog X.w X.K H1 vs ds else PRs X.prog X.w X.K H1 vs ds) := fun ds hd => by
      cases rd with
      | true => exact fr.conts T.rel hd
      | false => exact datas_rep fr hd
    split at q
    · rename_i ds f2 x2 hd e4
      cases e4
      split at q
      · rename_i x' z ho
        split at q
        · rename_i hc
          rw [Bool.and_eq_true] at hc
          refine hs H1 a vs ds x1 x' z Q r1 hc.1 (args ds hd) ho fun u v ra pz => ?_
          exact q v _ (T.trans (T.rel.put e2 hc.1 hc.2 e1 ra)) ⟨pz, fun z => nomatch z⟩
        · exact q.elim
      · exact q.elim
    · exact q.elim
  · exact q.elim
theorem pe_mutE0 {name : Str} {apos cpos : Pos} {id : String} {r : V → List V → Hp → VK → Prop} {i : Nat} {xn : Str} {p : Pos} {k : Kd} {op : A → List Iv.D → Option (A × Iv.D)}
    (pa : PlainAttrs k.nm) (slot : Slot k.nm name id) (hty : typeOf (.builtin id) = pure (.type "method_descriptor")) (hm : MtR X id r) (hN : X.N[i]? = some xn) (hv : Vis X.env.scope xn) (hd : (xn == ("__debug__" : Str)) = false) (hcd : (xn == ("__classdict__" : Str)) = false)
    (hline : (apos.endLine == cpos.line) = true) (hs : MutS X.prog X.w X.K r op false) :
    PE X (.Call (.Attribute (.Name xn p) name apos) [] [] cpos) (tE X.prog X.w X.K Tb (evMut i k op false evNil) E) := by
  refine PE.weak (pe_bmG0 pa slot hty hm (pe_var hN hv hd hcd) base_name hline) fun σ H Q ⟨c, Γ, S, q⟩ => ?_
  unfold evMut at q
  split at q
  · rename_i hk
    obtain ⟨f, x, e, hx⟩ := isKd_of hk
    obtain ⟨v, e1, r⟩ := S.rep i f x e
    have hxC : x.isC = true := by cases x <;> first | rfl | cases hx
    obtain ⟨a, u, rfl, hu⟩ := r.at_ hxC
    refine ⟨_, e1, tyP_of r hx, ?_⟩
    have q : Aft (match (some [] : Option (List Iv.D)), Γ[i]? with
      | some ds, some (.c f x) => match op x ds with
        | some (x', z) => if x.isC && x'.isC then some (.ok (R.a (.d z), Γ.set i (.c f x'))) else none
        | none => none
      | _, _ => none) (fun x => XPost X.prog X.w X.K c x E) fun r Γ' => ∀ v H', Stp X.prog X.w X.K c Γ σ H Γ' H' → RRep X.prog X.w X.K c Γ' σ H H' v r → Q v H' := q
    simp only [e] at q
    split at q
    · rename_i x' z ho
      split at q
      · rename_i hc
        rw [Bool.and_eq_true] at hc
        refine hs H a [] [] x x' z Q r hc.1 .nil ho fun u v ra pz => ?_
        exact q v _ (S.put e hc.1 hc.2 e1 ra) ⟨pz, fun z => nomatch z⟩
      · exact q.elim
    · exact q.elim
  · exact q.elim

/-! ### the list's methods -/
def mAppend : A → List Iv.D → Option (A × Iv.D)
  | .l xs, [d] => if xs.length < lim then some (.l (xs ++ [d]), .none) else none
  | _, _ => none
def mExtend : A → List Iv.D → Option (A × Iv.D)
  | .l xs, [.list ys] => if xs.length + ys.length ≤ lim then some (.l (xs ++ ys), .none) else none
  | _, _ => none
def mPop : A → List Iv.D → Option (A × Iv.D)
  | .l xs, [] => (xs[xs.length - 1]?).map fun d => (.l xs.dropLast, d)
  | _, _ => none
theorem RRds.prs {vs : List V} {ds : List Iv.D} (h : PRs P w K H vs ds) : True := True.intro
theorem upd_lst {a : Addr} {vs ws : List V} {ds : List Iv.D} (h : H a = some (.lst vs)) (r : PRs P w K H ws ds) : ARep P w K (upd H a (.lst ws)) (.ref a) (.l ds) := by
  refine ⟨a, ws, rfl, upd_same, r.mono ⟨fun b xs q => ?_, fun b o u q => ?_⟩⟩
  all_goals
    have : b ≠ a := fun z => by subst z; rw [h] at q; cases q
    rw [upd_ne this]; exact q
theorem upd_pers {a : Addr} {vs ws : List V} (h : H a = some (.lst vs)) : Pers H (upd H a (.lst ws)) := by
  refine ⟨fun b xs q => ?_, fun b o u q => ?_⟩
  all_goals
    have : b ≠ a := fun z => by subst z; rw [h] at q; cases q
    rw [upd_ne this]; exact q
theorem mut_append : MutS P w K rAppend mAppend false := by
  intro H a vs ds x x' z Q r hx pr e k
  unfold mAppend at e
  split at e
  · split at e
    · rename_i hl
      cases e
      obtain ⟨b, ws, e, hb, r⟩ := r
      cases e
      have pr : PRs P w K H vs [_] := pr
      cases pr with
      | cons h t =>
        cases t
        exact ⟨a, ws, _, rfl, rfl, hb, by rw [r.length, ← lim_eq]; exact hl, k _ _ (upd_lst hb (r.append (.cons h .nil))) .non⟩
    · cases e
  · cases e
def rExtendR : V → List V → Hp → VK → Prop := fun x vs H Q => ∃ l b xs zs, x = .ref l ∧ vs = [.ref b] ∧ H l = some (.lst xs) ∧ Rd H b (.lst zs) ∧ xs.length + zs.length ≤ sizeLine ∧ Q .non (upd H l (.lst (xs ++ zs)))
open PySem.Spec PyProof.Rows in
theorem mt_extendR : MtM X "list.extend" rExtendR := by
  intro pins s σ H x vs v us Q I rx rv h
  obtain ⟨l, b, xs, zs, rfl, rfl, hH, hB, hz, q⟩ := h
  cases rx
  obtain ⟨u, rfl, ru⟩ := rv.one
  cases ru
  obtain ⟨z, its, n, r, hl, e⟩ := I.lstM hH
  obtain ⟨z2, its2, n2, r2, hl2, e2⟩ := Inv.lstR I hB
  have hsz : its.toArray.size + its2.toArray.size ≤ sizeLine := by rw [List.size_toArray, List.size_toArray]; omega
  have hlong : ¬ (!its.toArray.isEmpty && Builtin.List.listTooLong (its.toArray.size + its2.toArray.size)) = true := by
    rw [notLongL hsz, Bool.and_false]
    exact Bool.false_ne_true
  refine call_meets F.slot_list_extend ⟨_, e, rfl⟩ F.entry_list_extend (F.args_list_extend_2 _ _)
    (AutoSeq1.list_extend_list_list_0 l its.toArray n b its2.toArray n2 hlong (by rw [List.size_toArray]; omega) (by omega)) ⟨e, e2, ?_⟩
  refine ⟨.non, _, I.lset (its' := its ++ its2) hH e (by simp) (r.append r2) ?_, rfl, q⟩
  rw [List.length_append]
  omega
theorem mut_extend : MutS P w K rExtendR mExtend true := by
  intro H a vs ds x x' z Q r hx pr e k
  unfold mExtend at e
  split at e
  · split at e
    · rename_i xs ys hl
      cases e
      obtain ⟨b, ws, e, hb, r⟩ := r
      cases e
      obtain ⟨y, e, ry⟩ := (show RRds P w K H vs _ from pr).one
      subst e
      obtain ⟨b, zs, rfl, hz, rz⟩ := ry.rdl
      exact ⟨a, b, ws, zs, rfl, rfl, hb, hz, by rw [r.length, rz.length, ← lim_eq]; exact hl, k _ _ (upd_lst hb (r.append rz)) .non⟩
    · cases e
  · cases e
theorem mut_pop : MutS P w K rPop mPop false := by
  intro H a vs ds x x' z Q r hx pr e k
  unfold mPop at e
  split at e
  · obtain ⟨d, e1, e2⟩ := Option.map_eq_some_iff.mp e
    cases e2
    obtain ⟨b, ws, e, hb, r⟩ := r
    cases e
    have pr : PRs P w K H vs [] := pr
    cases pr
    obtain ⟨v, e3, pv⟩ := r.get e1
    rw [← r.length] at e3
    exact ⟨a, ws, v, rfl, rfl, hb, e3, k _ _ (upd_lst hb r.dropLast) (PR.mono (upd_pers hb) pv)⟩
  · cases e

/-! ### x[i] = e -/
def evStore (i : Nat) (op : A → Iv.D → Iv.D → Option A) (fi fe : M R) : M Fw := fun Γ => bnd (fz fe Γ) fun re Γ => match slA Γ i with
  | none => none
  | some _ => bnd (fz fi Γ) fun ri Γ => match datas [re], cont Γ ri, Γ[i]? with
    | some [dv], some di, some (.c f x) => match op x di dv with
      | some x' => if x.isC && x'.isC then some (.ok (.nx, Γ.set i (.c f x'))) else none
      | none => none
    | _, _, _ => none
def SetS (P : Program) (w : World) (K : PySem.W.Frag) (t : TSet) (op : A → Iv.D → Iv.D → Option A) : Prop := ∀ (H : Hp) (a : Addr) (x x' : A) (vi v : V) (di dv : Iv.D) (Q : Hp → Prop), ARep P w K H (.ref a) x → x.isC = true → RRd P w K H vi di → PR P w K H v dv → op x di dv = some x' →
  (∀ u, ARep P w K (upd H a u) (.ref a) x' → Q (upd H a u)) → t (.ref a) vi v H Q
theorem sole_sub {o i e : Expr} {p : Pos} {l : Nat} {env : PySem.Env} : swapsWithSole [.Subscript o i p] e l env = pure false := by
  cases e <;> rfl
theorem swst_sub {o i e : Expr} {p : Pos} {env : PySem.Env} : swappedStores [.Subscript o i p] e env = pure none := rfl
def nsl : Expr → Bool
  | .Slice _ _ _ _ => false
  | _ => true
theorem asg_sub {o ie : Expr} {p2 : Pos} {env : PySem.Env} {v : Value} (h : nsl ie = true) : assign (.Subscript o ie p2) env v = (do
    let ov ← holding [v] (eval o env)
    let iv ← holding [v, ov] (eval ie env)
    standAt p2
    holding [v, ov, iv] (setItem ov iv v)
    release [v, ov, iv] []) := by
  cases ie <;> first | rfl | cases h
theorem slA_of {i : Nat} {x : A} (h : slA Γ i = some x) : ∃ f, Γ[i]? = some (.c f x) := by
  unfold slA at h
  split at h
  · rename_i e; cases h; exact ⟨_, e⟩
  · cases h
theorem ps_storeE {xn : Str} {p p2 pos : Pos} {i : Nat} {ie e : Expr} {fi fe : M R} {t : TSet} {op : A → Iv.D → Iv.D → Option A} (hN : X.N[i]? = some xn) (hv : Vis X.env.scope xn) (hd : (xn == ("__debug__" : Str)) = false) (hcd : (xn == ("__classdict__" : Str)) = false)
    (hi : PE X ie (tE P w K Tb fi E)) (he : PE X e (tE P w K Tb fe E)) (hs : PSet X t) (so : SetS P w K t op) (hn : nsl ie = true) : PS X (.Assign [.Subscript (.Name xn p) ie p2] e pos) (tS P w K Tb (evStore i op fi fe) E) := by
  refine PS.weak (ps_asg (pe_fzE he) (pg_sub (pe_var hN hv hd hcd) (pe_fzE hi) hs (fun _ => asg_sub hn)) sole_sub swst_sub) fun D σ H ⟨c, Γ, S, q⟩ => ⟨c, Γ, S, (Aft_bnd.mp q).imp fun re Γ1 er q v H1 T1 rr => ?_⟩
  obtain ⟨re, rfl⟩ := fz_of er
  have fr := FRep.of rr
  split at q
  · exact q.elim
  · rename_i x0 h0
    obtain ⟨f0, e0⟩ := slA_of h0
    obtain ⟨vo, ev, _⟩ := T1.rel.rep i f0 x0 e0
    refine ⟨vo, ev, c, Γ1, T1.rel, (Aft_bnd.mp q).imp fun ri Γ2 ei q vi H2 T2 ri' => ?_⟩
    obtain ⟨ri, rfl⟩ := fz_of ei
    have fr2 := fr.stp T1.rel T2
    have fi2 := FRep.of ri'
    have T := T1.trans T2
    split at q
    · rename_i dv di f x h1 h2 h3
      split at q
      · rename_i x' ho
        split at q
        · rename_i hc
          rw [Bool.and_eq_true] at hc
          have pr := datas_rep (.cons fr2 .nil) h1
          cases pr with
          | cons pv pt =>
            cases pt
            obtain ⟨vo', ev', r⟩ := T2.rel.rep i f x h3
            rw [ev] at ev'
            cases ev'
            obtain ⟨a, u, rfl, hu⟩ := r.at_ hc.1
            refine so H2 a x x' vi v di dv _ r hc.1 (fi2.cont T2.rel h2) pv ho fun u ra => ?_
            have T3 := T2.rel.put h3 hc.1 hc.2 ev ra
            exact (show SPost P w K c H D .nx (Γ2.set i (.c f x')) from q) σ _ T3.rel (T.trans T3).pers
        · exact q.elim
      · exact q.elim
    · exact q.elim
def sList : A → Iv.D → Iv.D → Option A
  | .l xs, .int i, d => (ixD xs.length i).bind fun j => if j < xs.length then some (.l (xs.set j d)) else none
  | _, _, _ => none
theorem set_listS : SetS P w K rSetL sList := by
  intro H a x x' vi v di dv Q r hx ri pv e k
  unfold sList at e
  split at e
  · rename_i xs i
    cases e1 : ixD xs.length i with
    | none => rw [e1] at e; cases e
    | some j =>
      rw [e1] at e
      have e : (if j < xs.length then some (A.l (xs.set j dv)) else none) = some x' := e
      split at e
      · cases e
        obtain ⟨b, ws, e, hb, r⟩ := r
        cases e
        obtain rfl := ri.int
        exact ⟨a, ws, i, j, rfl, rfl, hb, by rw [r.length]; exact e1, k _ (upd_lst hb (r.set j pv))⟩
      · cases e
  · cases e
end
end Iv
set_option Elab.async false
set_option linter.all false
set_option maxRecDepth 100000
set_option maxHeartbeats 1000000
/-! Iv: loops: what is walked, targets, for, while. -/
namespace Iv
open PySem L2

section
variable {P : Program} {w : World} {K : PySem.W.Frag} {Tb : List (Addr × Str)} {c : Ctx Tb} {Γ Γ' Γ1 Γ2 : Env} {σ σ' : L2.St} {H H' H1 H2 : Hp} {E : XK} {X : Cx} {D : Ends}
/-- J gives ds, whatever else is done meanwhile -/
abbrev IterOk (P : Program) (w : World) (K : PySem.W.Frag) (J : It) (H0 : Hp) (ds : List Iv.D) : Prop :=
  Walk J ds.length (fun H => Pers H0 H) fun i H x H' => Same H H' ∧ ∃ d, ds[i]? = some d ∧ PR P w K H' x d
def tIt (P : Program) (w : World) (K : PySem.W.Frag) (Tb : List (Addr × Str)) (f : M (List Iv.D)) (E : XK) : TI := fun σ H R => ∃ (c : Ctx Tb) (Γ : Env), SRel P w K c Γ σ H ∧
  Aft (f Γ) (fun x => XPost P w K c x E) fun ds Γ' => ∀ J H', Stp P w K c Γ σ H Γ' H' → IterOk P w K J H' ds → R J H'
theorem PI.weak {tg e : Expr} {t t' : TI} (h : PI X tg e t) (w : ∀ σ H R, t' σ H R → t σ H R) : PI X tg e t' := ⟨fun pins s σ H R I q => h.run pins s σ H R I (w σ H R q)⟩
theorem PI.or {tg e : Expr} {te : TE} {k k' : V → Hp → (It → Hp → Prop) → Prop} (h : PI X tg e fun σ H R => te σ H fun x H1 => k x H1 R) (h' : PI X tg e fun σ H R => te σ H fun x H1 => k' x H1 R) (hs : PE X e te) : True := True.intro

/-! ### targets -/
abbrev Bd := Iv.D → Env → Option Env
abbrev Bds := List Iv.D → Env → Option Env
def setO (i : Nat) (x : A) : Env → Option Env := fun Γ => if canSet Γ i then some (Γ.set i (.c ⟨true⟩ x)) else none
/-- a target: d is bound, at the slots js alone -/
def tG (P : Program) (w : World) (K : PySem.W.Frag) (Tb : List (Addr × Str)) (js : List Nat) (g : Bd) : TG := fun v σ H Q => ∃ (c : Ctx Tb) (Γ : Env) (d : Iv.D) (Γ' : Env), SRel P w K c Γ σ H ∧ PR P w K H v d ∧ g d Γ = some Γ' ∧ ∀ σ' : L2.St, SRel P w K c Γ' σ' H → (∀ j, j ∉ js → σ'[j]? = σ[j]?) → Q σ' H
def tGs (P : Program) (w : World) (K : PySem.W.Frag) (Tb : List (Addr × Str)) (js : List Nat) (g : Bds) : TGs := fun vs σ H Q => ∃ (c : Ctx Tb) (Γ : Env) (ds : List Iv.D) (Γ' : Env), SRel P w K c Γ σ H ∧ PRs P w K H vs ds ∧ g ds Γ = some Γ' ∧ ∀ σ' : L2.St, SRel P w K c Γ' σ' H → (∀ j, j ∉ js → σ'[j]? = σ[j]?) → Q σ' H
def gvName (i : Nat) : Bd := fun d => setO i (.d d)
def gvNil : Bds
  | [], Γ => some Γ
  | _ :: _, _ => none
def gvCons (g : Bd) (h : Bds) : Bds
  | [], _ => none
  | d :: ds, Γ => (g d Γ).bind (h ds)
def gvTup (n : Nat) (h : Bds) : Bd
  | .tuple ds, Γ => if ds.length = n then h ds Γ else none
  | _, _ => none
theorem PG.weak {e : Expr} {t t' : TG} (h : PG X e t) (w : ∀ v σ H Q, t' v σ H Q → t v σ H Q) : PG X e t' := ⟨fun pins s σ H v u Q I r q => h.run pins s σ H v u Q I r (w v σ H Q q)⟩
theorem PGs.weak {e : List Expr} {t t' : TGs} (h : PGs X e t) (w : ∀ v σ H Q, t' v σ H Q → t v σ H Q) : PGs X e t' := ⟨fun pins s σ H v u Q I r q => h.run pins s σ H v u Q I r (w v σ H Q q)⟩
theorem pg_nameE {i : Nat} {x : Str} {pos : Pos} (hN : X.N.Nodup) (hi : X.N[i]? = some x) (hx : Loc X.env.scope x) (hf : X.fn x = true ∨ X.env.scope.names.lookup x = some .local) : PG X (.Name x pos) (tG P w K Tb [i] (gvName i)) := by
  refine PG.weak (pg_name hN hi hx hf) fun v σ H Q ⟨c, Γ, d, Γ', S, r, e, q⟩ => ?_
  unfold gvName setO at e
  split at e
  · rename_i hc
    cases e
    exact q _ (S.set hc (x := .d d) r fun z => nomatch z) fun j hj => by rw [List.getElem?_set_ne (by simpa using Ne.symm (by simpa using hj : j ≠ i))]
  · cases e
theorem pgs_nilE : PGs X [] (tGs P w K Tb [] gvNil) := by
  refine PGs.weak pgs_nil fun v σ H Q ⟨c, Γ, ds, Γ', S, r, e, q⟩ => ?_
  cases r with
  | nil => cases e; exact ⟨rfl, q σ S fun _ _ => rfl⟩
  | cons => cases e
theorem pgs_consE {e : Expr} {es : List Expr} {js ks : List Nat} {g : Bd} {h : Bds} (h1 : PG X e (tG P w K Tb js g)) (h2 : PGs X es (tGs P w K Tb ks h)) (hs : (assignEach (e :: es) X.env).map (fun x => x.2) = assign e X.env :: (assignEach es X.env).map (fun x => x.2)) : PGs X (e :: es) (tGs P w K Tb (js ++ ks) (gvCons g h)) := by
  refine PGs.weak (pgs_cons h1 h2 hs) fun v σ H Q ⟨c, Γ, ds, Γ', S, r, e, q⟩ => ?_
  cases r with
  | nil => cases e
  | cons h t =>
    obtain ⟨Γ1, e1, e2⟩ := Option.bind_eq_some_iff.mp e
    exact ⟨_, _, rfl, c, Γ, _, Γ1, S, h, e1, fun σ1 S1 p1 => ⟨c, Γ1, _, Γ', S1, t, e2, fun σ2 S2 p2 => q σ2 S2 fun j hj => by
      rw [List.mem_append, not_or] at hj
      rw [p2 j hj.2, p1 j hj.1]⟩⟩
theorem pg_tupE {es : List Expr} {k : Nat} {pos : Pos} {n : Nat} {js : List Nat} {h : Bds} (hg : PG X (.Tuple es k pos) (gTup X.K n (tGs P w X.K Tb js h))) : PG X (.Tuple es k pos) (tG P w X.K Tb js (gvTup n h)) := by
  refine PG.weak hg fun v σ H Q ⟨c, Γ, d, Γ', S, r, e, q⟩ => ?_
  unfold gvTup at e
  split at e
  · split at e
    · rename_i ds hl
      obtain ⟨a, vs, rfl, hs, r1⟩ := r.inv_tup
      exact ⟨a, vs, rfl, hs, by rw [r1.length]; exact hl, c, Γ, ds, Γ', S, r1, e, q⟩
    · cases e
  · cases e

/-! ### for -/
def evLoop (g : Bd) (b : M Fw) : List Iv.D → M Fw
  | [], Γ => some (.ok (.nx, Γ))
  | d :: ds, Γ => match g d Γ with
    | none => none
    | some Γ => bnd (b Γ) fun fl Γ => match fl with
      | .nx => evLoop g b ds Γ
      | .ct => evLoop g b ds Γ
      | .bk => some (.ok (.nx, Γ))
      | .rt x => some (.ok (.rt x, Γ))
def evFor (f : M (List Iv.D)) (g : Bd) (b : M Fw) : M Fw := fun Γ => bnd (f Γ) fun ds Γ => evLoop g b ds Γ
theorem ps_forE {tg iter : Expr} {body : List Stmt} {pos : Pos} {f : M (List Iv.D)} {js : List Nat} {g : Bd} {b : M Fw} (hp : PassesOwn (model X.prog X.w) X.A X.env X.xe) (hc : X.calm = true) (hi : PI X tg iter (tIt P w K Tb f E)) (hg : PG X tg (tG P w K Tb js g)) (hb : PSs X body (tS P w K Tb b E))
    (hs : ∀ x, foldedSetIterable iter X.env x = pure x) : PS X (.For tg iter body [] pos) (tS P w K Tb (evFor f g b) E) := by
  refine PS.weak (ps_for hp hc hi hg hb hs) fun D σ H ⟨c, Γ, S, q⟩ => ⟨c, Γ, S, (Aft_bnd.mp q).imp fun ds Γ1 _ q J H1 T ok => ?_⟩
  refine for_it ok (fun i σ' H' => Pers H1 H' ∧ ∃ Γ', SRel P w K c Γ' σ' H' ∧ Aft (evLoop g b (ds.drop i) Γ') (fun x => XPost P w K c x E) fun fl Γ'' => SPost P w K c H1 D fl Γ'') ⟨Pers.refl H1, Γ1, T.rel, q.imp fun fl Γ2 _ h => h.pers T.pers⟩ (fun i σ' H' _ h => h.1) ?_ ?_
  · intro i x σ' H2 H3 hi ⟨p2, Γ', S', q⟩ ⟨sm, d, ed, pd⟩
    have e : ds.drop i = d :: ds.drop (i + 1) := by
      have := List.drop_eq_getElem_cons hi
      rw [this]
      rw [List.getElem?_eq_getElem hi] at ed
      cases ed
      rfl
    rw [e] at q
    unfold evLoop at q
    split at q
    · exact q.elim
    · rename_i Γ2 eg
      refine ⟨c, Γ', d, Γ2, S'.same sm, pd, eg, fun σ3 S3 _ => ?_⟩
      have pa : Pers H1 H3 := p2.trans (Pers.same sm)
      refine ⟨c, Γ2, S3, (Aft_bnd.mp q).imp fun fl Γ3 _ q => ?_⟩
      cases fl with
      | nx => exact fun σ4 H5 S4 p4 => ⟨pa.trans p4, Γ3, S4, q⟩
      | ct => exact fun σ4 H5 S4 p4 => ⟨pa.trans p4, Γ3, S4, q⟩
      | bk => exact fun σ4 H5 S4 p4 => (show SPost P w K c H1 D .nx Γ3 from q) σ4 H5 S4 (pa.trans p4)
      | rt x => exact fun v σ4 H5 S4 p4 r => (show SPost P w K c H1 D (.rt x) Γ3 from q) v σ4 H5 S4 (pa.trans p4) r
  · intro σ' H2 ⟨p2, Γ', S', q⟩
    rw [List.drop_length] at q
    exact (show SPost P w K c H1 D .nx Γ' from q) σ' H2 S' p2
/-! ### while -/
def evWhile (t : M Bool) (b : M Fw) : Nat → M Fw
  | 0, _ => none
  | n + 1, Γ => bnd (t Γ) fun k Γ => if k then bnd (b Γ) fun fl Γ => match fl with
      | .nx => evWhile t b n Γ
      | .ct => evWhile t b n Γ
      | .bk => some (.ok (.nx, Γ))
      | .rt x => some (.ok (.rt x, Γ))
    else some (.ok (.nx, Γ))
theorem ps_whileE {ce : Expr} {body : List Stmt} {pos : Pos} {t : M Bool} {b : M Fw} {n : Nat} (hp : PassesOwn (model X.prog X.w) X.A X.env X.xe) (hc : PT X ce (tT P w K Tb t E)) (hb : PSs X body (tS P w K Tb b E)) : PS X (.While ce body [] pos) (tS P w K Tb (evWhile t b n) E) := by
  refine PS.weak (ps_while hp hc hb) fun D σ H ⟨c, Γ, S, q⟩ => ?_
  refine ⟨fun m σ' H' => Pers H H' ∧ ∃ Γ', SRel P w K c Γ' σ' H' ∧ Aft (evWhile t b m Γ') (fun x => XPost P w K c x E) fun fl Γ'' => SPost P w K c H D fl Γ'', ⟨n, Pers.refl H, Γ, S, q⟩, ?_⟩
  intro m σ' H' ⟨p, Γ', S', q⟩
  cases m with
  | zero => exact q.elim
  | succ m =>
    unfold evWhile at q
    refine ⟨c, Γ', S', (Aft_bnd.mp q).imp fun k Γ1 _ q H1 T => ?_⟩
    cases k with
    | false => exact iteF ((show SPost P w K c H D .nx Γ1 from q) _ _ T.rel (p.trans T.pers))
    | true =>
      refine iteT ⟨fun σ2 H2 => Pers H H2 ∧ ∃ Γ2, SRel P w K c Γ2 σ2 H2 ∧ Aft (evWhile t b m Γ2) (fun x => XPost P w K c x E) fun fl Γ'' => SPost P w K c H D fl Γ'', fun σ2 H2 h => ⟨m, Nat.lt_succ_self m, h⟩, c, Γ1, T.rel, (Aft_bnd.mp (show Aft (bnd (b Γ1) _) _ _ from q)).imp fun fl Γ3 _ q => ?_⟩
      have pa : Pers H H1 := p.trans T.pers
      cases fl with
      | nx => exact fun σ4 H5 S4 p4 => ⟨pa.trans p4, Γ3, S4, q⟩
      | ct => exact fun σ4 H5 S4 p4 => ⟨pa.trans p4, Γ3, S4, q⟩
      | bk => exact fun σ4 H5 S4 p4 => (show SPost P w K c H D .nx Γ3 from q) σ4 H5 S4 (pa.trans p4)
      | rt x => exact fun v σ4 H5 S4 p4 r => (show SPost P w K c H D (.rt x) Γ3 from q) v σ4 H5 S4 (pa.trans p4) r
end
end Iv
set_option Elab.async false
set_option linter.all false
set_option maxRecDepth 100000
set_option maxHeartbeats 2000000
/-! enumerate over a tuple, for the hand layer. -/
namespace Iv
open PySem L2 PySem.Spec PyProof.Rows

theorem enumT_new {v : Value} {o : Obj} {H : Heap → Prop} (B : Begins v o H) :
    Meets (Builtin.«enumerate.__new__» ⟨[.type "enumerate", v], []⟩) (fun _ R s => H s.heap ∧
      R (.ok (.ret (.ref (s.heap.push o).objs.size))) { s with heap := (s.heap.push o).push { cls := .type "enumerate", data := .fields #[.none, .bool false, .ref s.heap.objs.size, rawInt 0, .none, .none] } }) :=
  .of_wp fun prog w A R s h => by
    obtain ⟨hp, g, d, tk, os⟩ := s; obtain ⟨h1, h⟩ := h
    have hsub := sub_enumerate
    have q1 : ∀ {A' : Around} {E : Value → Shared → Prop} {Q : Value → Shared → Prop}, Q (.ref hp.objs.size) ⟨hp.push o, g, d, tk, os⟩ → wpAny (model prog w) A' (pyIter v) Q E ⟨hp, g, d, tk, os⟩ :=
      fun q => B.iter prog w _ _ ⟨hp, g, d, tk, os⟩ _ h1 q
    wp_walk using q1
    refine wpAny_stack_any fun st => wpAny_pure ?_
    split
    · rename_i c _ _ _ _ _
      cases (c == Value.type "enumerate")
      · wp_walk using q1
        exact ⟨_, rfl, h⟩
      · wp_walk using q1
        exact ⟨_, rfl, h⟩
    · wp_walk using q1
      exact ⟨_, rfl, h⟩
theorem enumT_call {prog : Program} {w : World} {A : Around} {E : Value → Shared → Prop} {s : Shared} {t : Addr} {items : Array Value} {Q : Value → Shared → Prop} (ht : s.heap.IsTuple t items)
    (h : ∀ h', IsEnum h' (s.heap.objs.size + 1) s.heap.objs.size 0 .none → h'.IsTupleIter s.heap.objs.size t 0 → h'.objs.size = s.heap.objs.size + 2 →
      (∀ b o, s.heap.get? b = some o → h'.get? b = some o) → Q (.ref (s.heap.objs.size + 1)) { s with heap := h' }) :
    wpAny (model prog w) A (call (.type "enumerate") [.ref t]) Q E s := by
  refine callType_new F.called_enumerate (by decide) (F.typeCall_enumerate_1 _) (F.newCall_enumerate_1 _) (fun obj => F.args_object_init_2 obj _) F.entry_enumerate_new
    (enumT_new (begins_tuple t items)) ⟨ht, ?_⟩
  have hz : (s.heap.push { cls := .type "tuple_iterator", data := .fields #[.ref t, .int 0 0] }).objs.size = s.heap.objs.size + 1 := Heap.size_push ..
  show _ ∧ _
  rw [hz]
  have he : IsEnum ((s.heap.push { cls := .type "tuple_iterator", data := .fields #[.ref t, .int 0 0] }).push
      { cls := .type "enumerate", data := .fields #[.none, .bool false, .ref s.heap.objs.size, rawInt 0, .none, .none] }) (s.heap.objs.size + 1) s.heap.objs.size 0 .none := by
    have := Heap.get?_push_size (s.heap.push { cls := .type "tuple_iterator", data := .fields #[.ref t, .int 0 0] })
      (o := { cls := .type "enumerate", data := .fields #[.none, .bool false, .ref s.heap.objs.size, rawInt 0, .none, .none] }) rfl
    rw [hz] at this; exact this
  exact ⟨⟨_, he, rfl⟩, h _ he ⟨_, Heap.get?_push_of_some _ (Heap.get?_push_size _ rfl), rfl, rfl⟩ (by rw [Heap.size_push, hz]) fun b o x => Heap.get?_push_of_some _ (Heap.get?_push_of_some _ x)⟩
theorem enum_endT {prog : Program} {w : World} {A : Around} {E : Value → Shared → Prop} {s : Shared} {e it l : Addr} {i : Nat} {items : Array Value} {old : Value} {n : Int} {Q : Option Value → Shared → Prop} (hh : A.handled = none)
    (he : IsEnum s.heap e it n old) (hit : s.heap.IsTupleIter it l i) (hl : s.heap.IsTuple l items) (hx : items[i]? = none)
    (hQ : ∀ h', Heap.ExtBut it s.heap h' → Q none { s with heap := h' }) : wpAny (model prog w) A (pyNext (.ref e)) Q E s := by
  have hT : s.TypeIs (.ref e) "enumerate" := ⟨_, he, rfl⟩
  unfold pyNext
  refine wpAny_bind (wpAny_attempt (wpAny_callSpecial?_slot (name := Str.ofString "__next__") hT F.slot_enumerate_next
    (wpAny_call_entry F.slot_enumerate_next hT F.entry_enumerate_next ?_ (F.args_enumerate_next_1 _))))
  show wpAny _ _ (field (.ref e) 2 >>= _) _ _ _
  refine wpAny_bind (wpAny_field he rfl (x := .ref it) rfl ?_)
  refine wpAny_bind (wpAny_nextOf_tuple_end hh hit hl hx fun h' x he' hx' => ?_)
  obtain ⟨o, ho, hc⟩ := hx'
  refine wpAny_bind (wpAny_isInstance (T := "StopIteration") (b := true) ⟨o, ho, hc⟩ isSubtype_stop ?_)
  exact wpAny_pure (hQ _ he')
def IteT (K : PySem.W.Frag) (a : Addr) : It :=
  ⟨fun i H => ∃ (xs : List V) (x : V), SqT K H a xs ∧ xs[i]? = some x, fun i H v H' => ∃ T x, v = .ref T ∧ H T = none ∧ H' = upd H T (.tup [.int (i : Nat), x]) ∧ ∀ xs, SqT K H a xs → xs[i]? = some x, fun i H => ∃ xs : List V, SqT K H a xs ∧ xs.length ≤ i⟩
theorem turn_enumTp {P : Program} {w : World} {K : PySem.W.Frag} {elts : List Expr} {kk : Nat} {tpos : Pos} (a e it : Addr) :
    Turn P w K (.Tuple elts kk tpos) (IteT K a) [e, it] e (fun i h => (∃ old, IsEnum h e it ((i : Nat) : Int) old) ∧ h.IsTupleIter it a i ∧ e ≠ it) where
  mem := by simp
  obj := fun i h st b hb => by
    obtain ⟨⟨old, he⟩, ⟨o, ho, hc, hd⟩, _⟩ := st
    have e' : b = e ∨ b = it := by simpa using hb
    rcases e' with z | z
    · rw [z]; exact ⟨_, he, fun v q => nomatch q⟩
    · rw [z]; exact ⟨o, ho, fun v q => by rw [hd] at q; cases q⟩
  keep := fun i h h' st k => let ⟨⟨old, he⟩, hi, hne⟩ := st; ⟨⟨old, k e (by simp) _ he⟩, hi.at fun o q => k it (by simp) o q, hne⟩
  item := by
    intro X hP hw hK hc i pins s σ H E I hf st hg
    subst hP hw hK
    obtain ⟨⟨old, he⟩, hit, hne⟩ := st
    obtain ⟨xs, x, hq, hx⟩ := hg
    obtain ⟨its, rv, p, hz⟩ := I.tuple hq
    obtain ⟨u, hu, ru⟩ := rv.get hx
    have hel : e < s.heap.objs.size := Heap.lt_size he
    have hil : it < s.heap.objs.size := by obtain ⟨_, q, _⟩ := hit; exact Heap.lt_size q
    have p' : s.heap.IsTuple a its.toArray := p
    have nai : a ≠ it := fun z => by
      obtain ⟨o, e1, c1, n, d1⟩ := p
      obtain ⟨o2, e2, c2, d2⟩ := hit
      rw [z, e2] at e1; cases e1; rw [d2] at d1; cases d1
    have nea : e ≠ a := fun z => by
      obtain ⟨o, e1, c1, n, d1⟩ := p
      rw [← z, show s.heap.get? e = _ from he] at e1; cases e1; cases d1
    have D := Draws.tuple (prog := X.prog) (w := X.w) (A := X.A.in1) (I.ok.hd hc) it a nai its.toArray
    refine wpAny_pyNext_enum_itemD D he ⟨hit, p'⟩ (by have := (List.getElem?_eq_some_iff.mp hu).1; simpa using this) hne (by simp [hne, nea]) fun x' h' tk hx' ho st' hT hsz hk => ?_
    have ex : x' = u := by
      have : its[i]? = some x' := by simpa using hx'
      rw [hu] at this; cases this; rfl
    subst ex
    refine ⟨_, rfl, wpAny_letOwnedTupleGo_enum (s := { s with heap := h', toks := tk + 1 }) ho fun h'' he' sb => ?_⟩
    have hT2 : h''.get? s.heap.objs.size = some { cls := .type "tuple", data := .seq #[.int i tk, x'] } := (sb.2 _ (Nat.ne_of_gt hel)).trans hT
    have new : ObjOk X.prog X.w (upd H s.heap.objs.size (.tup [.int (i : Nat), x])) h'' s.heap.objs.size (.tup [.int (i : Nat), x]) :=
      ⟨by show 2 ≤ sizeLine; decide, [.int i tk, x'], .cons ⟨_, rfl⟩ (.cons ru .nil), ⟨_, hT2, rfl, _, rfl⟩⟩
    have I1 : Inv X pins σ (upd H s.heap.objs.size (.tup [.int (i : Nat), x])) { s with heap := h'', toks := tk + 1 } :=
      I.turnedNew (ch := [e, it]) (fun b ob hb q => (sb.2 b (fun z => hb (by simp [z]))).trans (hk b ob (fun z => hb (by simp [z])) (fun z => hb (by simp [z])) q)) hf (Nat.le_refl _) new
    refine ⟨.ref s.heap.objs.size, _, I1, rfl, ⟨_, x, rfl, I.hok.fresh (Nat.le_refl _), rfl, fun ys hy => by rw [I.tuple_inj hy hq]; exact hx⟩, ⟨⟨x', ?_⟩, st'.1.at fun o q => (sb.2 it (Ne.symm hne)).trans q, hne⟩, fun b hb => ?_⟩
    · have e1 : ((i + 1 : Nat) : Int) = (i : Int) + 1 := by omega
      rw [e1]; exact he'
    · have hb' : b < s.heap.objs.size := by
        have e' : b = e ∨ b = it := by simpa using hb
        rcases e' with z | z
        · rw [z]; exact hel
        · rw [z]; exact hil
      rw [upd_ne (Nat.ne_of_lt hb')]
      exact (hf b hb).1
  done := by
    intro X hP hw hK hc i pins s σ H E I hf st hg
    subst hP hw hK
    obtain ⟨⟨old, he⟩, hit, hne⟩ := st
    obtain ⟨xs, hq, hx⟩ := hg
    obtain ⟨its, rv, p, hz⟩ := I.tuple hq
    obtain ⟨f0, f1, f2, f3, f4, f5⟩ := hf it (by simp)
    have hl := rv.length
    exact enum_endT (I.ok.hd hc) he hit (show s.heap.IsTuple a its.toArray from p) (by simp; omega) fun h' eb => ⟨rfl, I.turned (t' := s.toks) (fun b o hb q => eb b o hb q) f0 f1 f3 f4 f5⟩
  self := fun A i s Q E st h => let ⟨⟨_, he⟩, _⟩ := st; wpAny_pyIter_enum he h
def iEnumA (K : PySem.W.Frag) (ta : TA) : TI := fun σ H R => ta σ H fun vs H1 => ∃ a xs, vs = [.ref a] ∧ ((SqL K H1 a xs ∧ R (Ite K a) H1) ∨ (SqT K H1 a xs ∧ R (IteT K a) H1))
theorem pi_enumA {X : Cx} {e : Expr} {ta : TA} {p pos tpos : Pos} {elts : List Expr} {kk : Nat} (hg : Gl X "enumerate") (hm : X.mg "enumerate" = none) (ha : PA X [e] ta) (hs : starEach [e] X.env = [(false, eval e X.env)]) :
    PI X (.Tuple elts kk tpos) (.Call (.Name "enumerate" p) [e] [] pos) (iEnumA X.K ta) := by
  refine ⟨fun pins s σ H R I h => ?_⟩
  refine Call_ (ld_blt I hg hm boot_enumerate (PyProof.Rows.callWith_type1 (thn (ha.run pos pins s σ H _ I h) fun us s1 ⟨vs, H1, I1, r1, q1⟩ => ?_) hs rfl))
  obtain ⟨a, xs, ex, q⟩ := q1
  subst ex
  cases r1 with
  | cons r rr =>
    cases rr
    cases r
    have fin : ∀ {h' : Heap} {J : It} {tn : Nat → Heap → Prop}, (∀ b o, s1.heap.get? b = some o → h'.get? b = some o) → Turn X.prog X.w X.K (.Tuple elts kk tpos) J [s1.heap.objs.size + 1, s1.heap.objs.size] (s1.heap.objs.size + 1) tn → tn 0 h' → R J H1 →
        PIE X pins σ (.Tuple elts kk tpos) R (.ref (s1.heap.objs.size + 1)) { s1 with heap := h' } := fun {h' J tn} hk T st q => by
      have I2 : Inv X pins σ H1 { s1 with heap := h' } := I1.kept (t' := s1.toks) hk
      refine ⟨s1.heap.objs.size + 1, [s1.heap.objs.size + 1, s1.heap.objs.size], _, _, H1, rfl, I2, T, st, fun b hb => ?_, q⟩
      have e' : b = s1.heap.objs.size + 1 ∨ b = s1.heap.objs.size := by simpa using hb
      have hle : s1.heap.objs.size ≤ b := by
        rcases e' with z | z
        · rw [z]; exact Nat.le_add_right _ _
        · rw [z]; exact Nat.le_refl _
      exact I1.fpOk hle (I1.hok.fresh hle)
    rcases q with ⟨hq, q⟩ | ⟨hq, q⟩
    · obtain ⟨its, rv, p', hz⟩ := I1.list hq
      refine call_enumerate_list p'.isList fun h' he hit hsz hk => wpAny_pyIter_enum he ?_
      exact fin hk (turn_enum a _ _) ⟨⟨.none, he⟩, hit, Nat.succ_ne_self _⟩ q
    · obtain ⟨its, rv, p', hz⟩ := I1.tuple hq
      refine enumT_call (show s1.heap.IsTuple a its.toArray from p') fun h' he hit hsz hk => wpAny_pyIter_enum he ?_
      exact fin hk (turn_enumTp a _ _) ⟨⟨.none, he⟩, hit, Nat.succ_ne_self _⟩ q
end Iv
set_option Elab.async false
set_option linter.all false
set_option maxRecDepth 100000
set_option maxHeartbeats 1000000
/-! Iv: what is walked. -/
namespace Iv
open PySem L2 RZ

def seqD : R → Option (List Iv.D)
  | .a (.d (.list ds)) => some ds
  | .a (.d (.tuple ds)) => some ds
  | _ => none
def itSeq (f : M R) : M (List Iv.D) := fun Γ => bnd (fz f Γ) fun r Γ => match seqD r with
  | some ds => some (.ok (ds, Γ))
  | none => none
def rngD (lo hi : Int) : List Iv.D := (List.range (hi - lo).toNat).map fun i => .int (lo + (i : Nat))
def okRng (i : Int) : Bool := decide (-(2 ^ 62) ≤ i) && decide (i < 2 ^ 62)
def itRng1 (g : M (List R)) : M (List Iv.D) := fun Γ => bnd (g Γ) fun rs Γ => match conts Γ rs with
  | some [.int j] => if okRng j then some (.ok (rngD 0 j, Γ)) else none
  | _ => none
def itRng2 (g : M (List R)) : M (List Iv.D) := fun Γ => bnd (g Γ) fun rs Γ => match conts Γ rs with
  | some [.int i, .int j] => if okRng i && okRng j then some (.ok (rngD i j, Γ)) else none
  | _ => none
def enumD (n : Nat) : List Iv.D → List Iv.D
  | [] => []
  | d :: ds => .tuple [.int n, d] :: enumD (n + 1) ds
def zipD : List Iv.D → List Iv.D → List Iv.D
  | x :: xs, y :: ys => .tuple [x, y] :: zipD xs ys
  | _, _ => []
def itEnum (g : M (List R)) : M (List Iv.D) := fun Γ => bnd (g Γ) fun rs Γ => match datas rs with
  | some [.list ds] => some (.ok (enumD 0 ds, Γ))
  | some [.tuple ds] => some (.ok (enumD 0 ds, Γ))
  | _ => none
def itZip (g : M (List R)) : M (List Iv.D) := fun Γ => bnd (g Γ) fun rs Γ => match datas rs with
  | some [.list xs, .list ys] => some (.ok (zipD xs ys, Γ))
  | some [.tuple xs, .tuple ys] => some (.ok (zipD xs ys, Γ))
  | _ => none
theorem enumD_get : ∀ {ds : List Iv.D} {n i : Nat}, (enumD n ds)[i]? = (ds[i]?).map fun d => .tuple [.int ((n + i : Nat) : Int), d]
  | [], n, i => by simp [enumD]
  | d :: ds, n, 0 => by simp [enumD]
  | d :: ds, n, i + 1 => by
    simp only [enumD, List.getElem?_cons_succ]
    rw [enumD_get]
    have : n + 1 + i = n + (i + 1) := by omega
    rw [this]
theorem enumD_len : ∀ {ds : List Iv.D} {n : Nat}, (enumD n ds).length = ds.length
  | [], n => rfl
  | d :: ds, n => by simp only [enumD, List.length_cons, enumD_len]
theorem zipD_len : ∀ {xs ys : List Iv.D}, (zipD xs ys).length = min xs.length ys.length
  | [], ys => by simp [zipD]
  | _ :: _, [] => by simp [zipD]
  | x :: xs, y :: ys => by simp only [zipD, List.length_cons, zipD_len]; omega
theorem zipD_get : ∀ {xs ys : List Iv.D} {i : Nat} {x y : Iv.D}, xs[i]? = some x → ys[i]? = some y → (zipD xs ys)[i]? = some (.tuple [x, y])
  | [], ys, i, x, y, h, _ => by simp at h
  | _ :: _, [], i, x, y, _, h => by simp at h
  | a :: xs, b :: ys, 0, x, y, h, h' => by simp at h h'; subst h h'; rfl
  | a :: xs, b :: ys, i + 1, x, y, h, h' => by
    simp only [zipD, List.getElem?_cons_succ] at h h' ⊢
    exact zipD_get h h'
section
variable {P : Program} {w : World} {K : PySem.W.Frag} {Tb : List (Addr × Str)} {c : Ctx Tb} {Γ Γ' Γ1 Γ2 : Env} {σ σ' : L2.St} {H H' H1 H2 : Hp} {E : XK} {X : Cx} {D : Ends}
theorem pi_listOrTup {tg e : Expr} {te : TE} (h : PE X e te) : PI X tg e (fun σ H R => te σ H fun x H1 => (∃ a, x = .ref a ∧ (∃ xs, SqL X.K H1 a xs) ∧ R (Itl X.K a) H1) ∨ ∃ a, x = .ref a ∧ (∃ xs, SqT X.K H1 a xs) ∧ R (Itt X.K a) H1) := by
  refine ⟨fun pins s σ H R I q => ?_⟩
  refine thn (h.run pins s σ H _ I q) fun u s1 ⟨x, H1, I1, r1, q1⟩ => ?_
  rcases q1 with ⟨a, e, ⟨xs, hq⟩, q⟩ | ⟨a, e, ⟨xs, hq⟩, q⟩
  · subst e
    cases r1
    obtain ⟨its, rv, p, hz⟩ := I1.list hq
    refine wpAny_pyIter_list p.isList ?_
    refine ⟨s1.heap.objs.size, [s1.heap.objs.size], _, _, H1, rfl, I1.kept (t' := s1.toks) fun b o e => Heap.get?_push_of_some _ e, turn_list a _, ⟨_, Heap.get?_push_size _ rfl, rfl, rfl⟩, fun b hb => ?_, q⟩
    have e : b = s1.heap.objs.size := by simpa using hb
    subst e
    exact I1.fpOk (Nat.le_refl _) (I1.hok.fresh (Nat.le_refl _))
  · subst e
    cases r1
    obtain ⟨its, rv, p, hz⟩ := I1.tuple hq
    refine wpAny_pyIter_tuple (show s1.heap.IsTuple a its.toArray from p) ?_
    refine ⟨s1.heap.objs.size, [s1.heap.objs.size], _, _, H1, rfl, I1.kept (t' := s1.toks) fun b o e => Heap.get?_push_of_some _ e, turn_tuple a _, ⟨_, Heap.get?_push_size _ rfl, rfl, rfl⟩, fun b hb => ?_, q⟩
    have e : b = s1.heap.objs.size := by simpa using hb
    subst e
    exact I1.fpOk (Nat.le_refl _) (I1.hok.fresh (Nat.le_refl _))
theorem iterSeq {x : V} {ds : List Iv.D} {R : It → Hp → Prop} (h : PR P w K H x (.list ds) ∨ PR P w K H x (.tuple ds)) (k : ∀ J, IterOk P w K J H ds → R J H) :
    (∃ a, x = .ref a ∧ (∃ xs, SqL K H a xs) ∧ R (Itl K a) H) ∨ ∃ a, x = .ref a ∧ (∃ xs, SqT K H a xs) ∧ R (Itt K a) H := by
  rcases h with h | h
  · cases h with
    | lst h r =>
      rename_i a o vs
      refine .inl ⟨a, rfl, ⟨vs, .inl (.inr ⟨_, h⟩)⟩, k _ ⟨fun i H2 hi p => ?_, fun H2 p => ?_, fun i H2 x H3 hi p y => ?_⟩⟩
      · have hi' : i < vs.length := by rw [r.length]; exact hi
        exact ⟨vs, vs[i], .inl (.inr ⟨_, p.frz _ _ _ h⟩), by simp [hi']⟩
      · exact ⟨vs, .inl (.inr ⟨_, p.frz _ _ _ h⟩), by rw [r.length]; exact Nat.le_refl _⟩
      · obtain ⟨e, y⟩ := y
        subst e
        have ev := y vs (.inl (.inr ⟨_, p.frz _ _ _ h⟩))
        obtain ⟨d, ed, pd⟩ := r.getV ev
        exact ⟨Same.refl _, d, ed, pd.mono p⟩
  · obtain ⟨a, vs, rfl, hs, r⟩ := h.inv_tup
    refine .inr ⟨a, rfl, ⟨vs, hs⟩, k _ ⟨fun i H2 hi p => ?_, fun H2 p => ?_, fun i H2 x H3 hi p y => ?_⟩⟩
    · have hi' : i < vs.length := by rw [r.length]; exact hi
      exact ⟨vs, vs[i], p.sqT hs, by simp [hi']⟩
    · exact ⟨vs, p.sqT hs, by rw [r.length]; exact Nat.le_refl _⟩
    · obtain ⟨e, y⟩ := y
      subst e
      have ev := y vs (p.sqT hs)
      obtain ⟨d, ed, pd⟩ := r.getV ev
      exact ⟨Same.refl _, d, ed, pd.mono p⟩
theorem pi_seqE {tg e : Expr} {f : M R} (h : PE X e (tE P w X.K Tb f E)) : PI X tg e (tIt P w X.K Tb (itSeq f) E) := by
  refine PI.weak (pi_listOrTup (pe_fzE h)) fun σ H R' ⟨c, Γ, S, q⟩ => ⟨c, Γ, S, (Aft_bnd.mp q).imp fun r Γ1 er q x H1 T rr => ?_⟩
  cases e : seqD r with
  | none => simp only [e] at q; exact q.elim
  | some ds =>
    simp only [e] at q
    have q : ∀ J H', Stp P w X.K c Γ σ H Γ1 H' → IterOk P w X.K J H' ds → R' J H' := q
    unfold seqD at e
    split at e
    · cases e; exact iterSeq (.inl rr.1) fun J ok => q J H1 T ok
    · cases e; exact iterSeq (.inr rr.1) fun J ok => q J H1 T ok
    · cases e
theorem rngD_len (lo hi : Int) : (rngD lo hi).length = (hi - lo).toNat := by simp [rngD]
theorem iterRng {lo hi : Int} : IterOk P w K (Itr lo (hi - lo).toNat) H (rngD lo hi) := by
  refine ⟨fun i H2 h _ => ?_, fun H2 _ => ?_, fun i H2 x H3 h p y => ?_⟩
  · rw [rngD_len] at h; exact h
  · rw [rngD_len]; exact Nat.le_refl _
  · rw [rngD_len] at h
    obtain ⟨e, y⟩ := y
    subst e y
    exact ⟨Same.refl _, .int (lo + (i : Nat)), by simp [rngD, h], .int _⟩
theorem okRng_of {i : Int} (h : okRng i = true) : -(2 ^ 62) ≤ i ∧ i < 2 ^ 62 := by
  unfold okRng at h
  rw [Bool.and_eq_true] at h
  exact ⟨of_decide_eq_true h.1, of_decide_eq_true h.2⟩
theorem pi_rng1E {tg a : Expr} {p pos : Pos} {g : M (List R)} (hg : Gl X "range") (hm : X.mg "range" = none) (ha : PA X [a] (tA P w K Tb g E)) (hs : nst a = true) : PI X tg (.Call (.Name "range" p) [a] [] pos) (tIt P w K Tb (itRng1 g) E) := by
  refine PI.weak (pi_range1 hg hm ha (star_cons hs)) fun σ H R' ⟨c, Γ, S, q⟩ => ⟨c, Γ, S, (Aft_bnd.mp q).imp fun rs Γ1 _ q vs H1 T fr => ?_⟩
  have one : ∀ ds, conts Γ1 rs = some ds → RRds P w K H1 vs ds := fun ds e => fr.conts T.rel e
  split at q
  · rename_i j e
    split at q
    · rename_i h
      obtain ⟨x, ex, rx⟩ := (one _ e).one
      obtain rfl := rx.int
      obtain ⟨h1, h2⟩ := okRng_of h
      have := (show ∀ J H', Stp P w K c Γ σ H Γ1 H' → IterOk P w K J H' (rngD 0 j) → R' J H' from q) (Itr 0 j.toNat) H1 T (by have := iterRng (P := P) (w := w) (K := K) (H := H1) (lo := 0) (hi := j); rwa [Int.sub_zero] at this)
      exact ⟨j, ex, h1, h2, this⟩
    · exact q.elim
  · exact q.elim
theorem pi_rng2E {tg a b : Expr} {p pos : Pos} {g : M (List R)} (hg : Gl X "range") (hm : X.mg "range" = none) (ha : PA X [a, b] (tA P w K Tb g E)) (hs : nst a = true) (hs2 : nst b = true) : PI X tg (.Call (.Name "range" p) [a, b] [] pos) (tIt P w K Tb (itRng2 g) E) := by
  refine PI.weak (pi_range2 hg hm ha ((star_cons hs).trans (by rw [star_cons hs2]; rfl)) (star_cons hs2)) fun σ H R' ⟨c, Γ, S, q⟩ => ⟨c, Γ, S, (Aft_bnd.mp q).imp fun rs Γ1 _ q vs H1 T fr => ?_⟩
  have one : ∀ ds, conts Γ1 rs = some ds → RRds P w K H1 vs ds := fun ds e => fr.conts T.rel e
  split at q
  · rename_i i j e
    split at q
    · rename_i h
      rw [Bool.and_eq_true] at h
      obtain ⟨x, y, ex, rx, ry⟩ := (one _ e).two
      obtain rfl := rx.int
      obtain rfl := ry.int
      obtain ⟨h1, h2⟩ := okRng_of h.1
      obtain ⟨h3, h4⟩ := okRng_of h.2
      exact ⟨i, j, ex, ⟨h1, h2, h3, h4⟩, (show ∀ J H', Stp P w K c Γ σ H Γ1 H' → IterOk P w K J H' (rngD i j) → R' J H' from q) _ H1 T iterRng⟩
    · exact q.elim
  · exact q.elim
theorem ANew.pair {p : Addr} {x y : V} {a b : Iv.D} (hp : H p = none) (r : PR P w K H x a) (r2 : PR P w K H y b) : PR P w K (upd H p (.tup [x, y])) (.ref p) (.tuple [a, b]) := (ANew.tup hp (.cons r (.cons r2 .nil))).1
theorem iterEnumL {a : Addr} {vs : List V} {ds : List Iv.D} (hs : ∀ H2, Pers H H2 → SqL K H2 a vs) (r : PRs P w K H vs ds) : IterOk P w K (Ite K a) H (enumD 0 ds) := by
  refine ⟨fun i H2 h p => ?_, fun H2 p => ⟨vs, hs H2 p, by rw [enumD_len, r.length]; exact Nat.le_refl _⟩, fun i H2 x H3 h p y => ?_⟩
  · rw [enumD_len, ← r.length] at h
    exact ⟨vs, vs[i], hs H2 p, by simp [h]⟩
  · obtain ⟨T, y', e, hT, e2, hx⟩ := y
    obtain ⟨d, ed, pd⟩ := r.getV (hx vs (hs H2 p))
    subst e e2
    refine ⟨same_upd hT, _, by rw [enumD_get, ed]; rfl, ?_⟩
    rw [Nat.zero_add]
    exact ANew.pair hT (.int _) (pd.mono p)
theorem iterEnumT {a : Addr} {vs : List V} {ds : List Iv.D} (hs : ∀ H2, Pers H H2 → SqT K H2 a vs) (r : PRs P w K H vs ds) : IterOk P w K (IteT K a) H (enumD 0 ds) := by
  refine ⟨fun i H2 h p => ?_, fun H2 p => ⟨vs, hs H2 p, by rw [enumD_len, r.length]; exact Nat.le_refl _⟩, fun i H2 x H3 h p y => ?_⟩
  · rw [enumD_len, ← r.length] at h
    exact ⟨vs, vs[i], hs H2 p, by simp [h]⟩
  · obtain ⟨T, y', e, hT, e2, hx⟩ := y
    obtain ⟨d, ed, pd⟩ := r.getV (hx vs (hs H2 p))
    subst e e2
    refine ⟨same_upd hT, _, by rw [enumD_get, ed]; rfl, ?_⟩
    rw [Nat.zero_add]
    exact ANew.pair hT (.int _) (pd.mono p)
theorem PR.lstP {v : V} {ds : List Iv.D} (h : PR P w K H v (.list ds)) : ∃ a vs, v = .ref a ∧ (∀ H2, Pers H H2 → SqL K H2 a vs) ∧ PRs P w K H vs ds := by
  cases h with | lst h r => exact ⟨_, _, rfl, fun H2 p => .inl (.inr ⟨_, p.frz _ _ _ h⟩), r⟩
theorem PR.tupP {v : V} {ds : List Iv.D} (h : PR P w K H v (.tuple ds)) : ∃ a vs, v = .ref a ∧ (∀ H2, Pers H H2 → SqT K H2 a vs) ∧ PRs P w K H vs ds := by
  obtain ⟨a, vs, e, hs, r⟩ := h.inv_tup
  exact ⟨a, vs, e, fun H2 p => p.sqT hs, r⟩
theorem PRs.one {vs : List V} {a : Iv.D} (h : PRs P w K H vs [a]) : ∃ x, vs = [x] ∧ PR P w K H x a := by
  cases h with | cons h t => cases t; exact ⟨_, rfl, h⟩
theorem PRs.two {vs : List V} {a b : Iv.D} (h : PRs P w K H vs [a, b]) : ∃ x y, vs = [x, y] ∧ PR P w K H x a ∧ PR P w K H y b := by
  cases h with | cons h t => cases t with | cons h2 t => cases t; exact ⟨_, _, rfl, h, h2⟩
theorem pi_enumE {e : Expr} {p pos tpos : Pos} {elts : List Expr} {kk : Nat} {g : M (List R)} (hg : Gl X "enumerate") (hm : X.mg "enumerate" = none) (ha : PA X [e] (tA P w X.K Tb g E)) (hs : nst e = true) :
    PI X (.Tuple elts kk tpos) (.Call (.Name "enumerate" p) [e] [] pos) (tIt P w X.K Tb (itEnum g) E) := by
  refine PI.weak (pi_enumA hg hm ha (star_cons hs)) fun σ H R' ⟨c, Γ, S, q⟩ => ⟨c, Γ, S, (Aft_bnd.mp q).imp fun rs Γ1 _ q vs H1 T fr => ?_⟩
  split at q
  · rename_i ds e
    obtain ⟨x, ex, rx⟩ := (datas_rep fr e).one
    obtain ⟨a, ws, rfl, hs, r⟩ := rx.lstP
    exact ⟨a, ws, ex, .inl ⟨hs _ (Pers.refl _), (show ∀ J H', Stp P w X.K c Γ σ H Γ1 H' → IterOk P w X.K J H' (enumD 0 ds) → R' J H' from q) _ H1 T (iterEnumL hs r)⟩⟩
  · rename_i ds e
    obtain ⟨x, ex, rx⟩ := (datas_rep fr e).one
    obtain ⟨a, ws, rfl, hs, r⟩ := rx.tupP
    exact ⟨a, ws, ex, .inr ⟨hs _ (Pers.refl _), (show ∀ J H', Stp P w X.K c Γ σ H Γ1 H' → IterOk P w X.K J H' (enumD 0 ds) → R' J H' from q) _ H1 T (iterEnumT hs r)⟩⟩
  · exact q.elim
theorem zip_at {xs ys : List Iv.D} {i : Nat} (h : i < (zipD xs ys).length) : i < xs.length ∧ i < ys.length := by
  rw [zipD_len] at h
  omega
theorem iterZipL {a b : Addr} {vs ws : List V} {xs ys : List Iv.D} (h1 : ∀ H2, Pers H H2 → SqL K H2 a vs) (h2 : ∀ H2, Pers H H2 → SqL K H2 b ws) (r1 : PRs P w K H vs xs) (r2 : PRs P w K H ws ys) : IterOk P w K (Itz K a b) H (zipD xs ys) := by
  refine ⟨fun i H2 h p => ?_, fun H2 p => ⟨vs, ws, h1 H2 p, h2 H2 p, by rw [zipD_len, r1.length, r2.length]; omega⟩, fun i H2 x H3 h p y => ?_⟩
  · obtain ⟨k1, k2⟩ := zip_at h
    rw [← r1.length] at k1
    rw [← r2.length] at k2
    exact ⟨vs, ws, vs[i], ws[i], h1 H2 p, h2 H2 p, by simp [k1], by simp [k2]⟩
  · obtain ⟨T, u, v, e, hT, e2, hu, hv⟩ := y
    obtain ⟨d, ed, pd⟩ := r1.getV (hu vs (h1 H2 p))
    obtain ⟨d', ed', pd'⟩ := r2.getV (hv ws (h2 H2 p))
    subst e e2
    exact ⟨same_upd hT, _, zipD_get ed ed', ANew.pair hT (pd.mono p) (pd'.mono p)⟩
theorem iterZipT {a b : Addr} {vs ws : List V} {xs ys : List Iv.D} (h1 : ∀ H2, Pers H H2 → SqT K H2 a vs) (h2 : ∀ H2, Pers H H2 → SqT K H2 b ws) (r1 : PRs P w K H vs xs) (r2 : PRs P w K H ws ys) : IterOk P w K (ItzT K a b) H (zipD xs ys) := by
  refine ⟨fun i H2 h p => ?_, fun H2 p => ⟨vs, ws, h1 H2 p, h2 H2 p, by rw [zipD_len, r1.length, r2.length]; omega⟩, fun i H2 x H3 h p y => ?_⟩
  · obtain ⟨k1, k2⟩ := zip_at h
    rw [← r1.length] at k1
    rw [← r2.length] at k2
    exact ⟨vs, ws, vs[i], ws[i], h1 H2 p, h2 H2 p, by simp [k1], by simp [k2]⟩
  · obtain ⟨T, u, v, e, hT, e2, hu, hv⟩ := y
    obtain ⟨d, ed, pd⟩ := r1.getV (hu vs (h1 H2 p))
    obtain ⟨d', ed', pd'⟩ := r2.getV (hv ws (h2 H2 p))
    subst e e2
    exact ⟨same_upd hT, _, zipD_get ed ed', ANew.pair hT (pd.mono p) (pd'.mono p)⟩
theorem pi_zipE {e e2 : Expr} {p pos tpos : Pos} {elts : List Expr} {kk : Nat} {g : M (List R)} (hg : Gl X "zip") (hm : X.mg "zip" = none) (ha : PA X [e, e2] (tA P w X.K Tb g E)) (hs : nst e = true) (hs2 : nst e2 = true) :
    PI X (.Tuple elts kk tpos) (.Call (.Name "zip" p) [e, e2] [] pos) (tIt P w X.K Tb (itZip g) E) := by
  refine PI.weak (pi_zipA hg hm ha (star_cons hs) (star_any (by simp [hs2]))) fun σ H R' ⟨c, Γ, S, q⟩ => ⟨c, Γ, S, (Aft_bnd.mp q).imp fun rs Γ1 _ q vs H1 T fr => ?_⟩
  split at q
  · rename_i xs ys e
    obtain ⟨x, y, ex, rx, ry⟩ := (datas_rep fr e).two
    obtain ⟨a, ws, rfl, hs, r⟩ := rx.lstP
    obtain ⟨b, ws2, rfl, hs2, r2⟩ := ry.lstP
    exact ⟨a, b, ws, ws2, ex, .inl ⟨hs _ (Pers.refl _), hs2 _ (Pers.refl _), (show ∀ J H', Stp P w X.K c Γ σ H Γ1 H' → IterOk P w X.K J H' (zipD xs ys) → R' J H' from q) _ H1 T (iterZipL hs hs2 r r2)⟩⟩
  · rename_i xs ys e
    obtain ⟨x, y, ex, rx, ry⟩ := (datas_rep fr e).two
    obtain ⟨a, ws, rfl, hs, r⟩ := rx.tupP
    obtain ⟨b, ws2, rfl, hs2, r2⟩ := ry.tupP
    exact ⟨a, b, ws, ws2, ex, .inr ⟨hs _ (Pers.refl _), hs2 _ (Pers.refl _), (show ∀ J H', Stp P w X.K c Γ σ H Γ1 H' → IterOk P w X.K J H' (zipD xs ys) → R' J H' from q) _ H1 T (iterZipT hs hs2 r r2)⟩⟩
  · exact q.elim
end
end Iv
set_option Elab.async false
set_option linter.all false
set_option maxRecDepth 100000
set_option maxHeartbeats 1000000
/-! Iv: list comprehensions. -/
namespace Iv
open PySem L2

/-- no exception -/
def nox {α : Type} (x : Res α) : Res α := match x with
  | some (.error _) => none
  | r => r
theorem Aft.nox {α : Type} {x : Res α} {Ex Ex' : Exc → Prop} {Q : α → Env → Prop} (h : Aft (nox x) Ex Q) : Aft x Ex' Q := by
  cases x with
  | none => exact h
  | some r => cases r with
    | error e => exact h.elim
    | ok p => exact h
def wipeE (Γ : Env) : List Nat → Env
  | [] => Γ
  | v :: vs => (wipeE Γ vs).set v .un
/-- the slots vs as they were ahead -/
def backE (Γ0 Γ : Env) : List Nat → Env
  | [] => Γ
  | v :: vs => match Γ0[v]? with
    | some s => (backE Γ0 Γ vs).set v s
    | none => backE Γ0 Γ vs
def evTests : List (M Bool) → M Bool
  | [] => fun Γ => some (.ok (true, Γ))
  | t :: ts => fun Γ => bnd (t Γ) fun b Γ => if b then evTests ts Γ else some (.ok (false, Γ))
/-- one turn: what is bound, asked, made -/
def evLcLoop (g : Bd) (t : M Bool) (e : M R) (vs : List Nat) : List Iv.D → List Iv.D → M (List Iv.D)
  | [], out, Γ => some (.ok (out, Γ))
  | d :: ds, out, Γ => match g d (wipeE Γ vs) with
    | none => none
    | some Γ => bnd (nox (t Γ)) fun b Γ => if b then bnd (nox (fz e Γ)) fun r Γ => match datas [r] with
        | some [x] => if out.length < lim then evLcLoop g t e vs ds (out ++ [x]) Γ else none
        | _ => none
      else evLcLoop g t e vs ds out Γ
def evLc (f : M (List Iv.D)) (g : Bd) (t : M Bool) (e : M R) (vs : List Nat) : M R := fun Γ => bnd (f Γ) fun ds Γ0 => bnd (evLcLoop g t e vs ds [] Γ0) fun out Γ => some (.ok (.a (.l out), backE Γ0 (wipeE Γ vs) vs))
section
variable {P : Program} {w : World} {K : PySem.W.Frag} {Tb : List (Addr × Str)} {c : Ctx Tb} {Γ Γ' Γ1 Γ2 : Env} {σ σ' : L2.St} {H H' H1 H2 : Hp} {E : XK} {X : Cx} {D : Ends}
theorem wipeE_len (Γ : Env) : ∀ vs, (wipeE Γ vs).length = Γ.length
  | [] => rfl
  | v :: vs => by unfold wipeE; rw [List.length_set, wipeE_len Γ vs]
theorem wipeE_fn {Γ : Env} : ∀ {vs : List Nat} {i : Nat} {n : Str}, (wipeE Γ vs)[i]? = some (.fn n) → Γ[i]? = some (.fn n) ∧ i ∉ vs
  | [], i, n, h => ⟨h, by simp⟩
  | v :: vs, i, n, h => by
    unfold wipeE at h
    by_cases hv : v = i
    · subst hv
      by_cases hl : v < (wipeE Γ vs).length
      · rw [List.getElem?_set_self hl] at h; cases h
      · rw [List.getElem?_eq_none (by simpa using hl)] at h; cases h
    · rw [List.getElem?_set_ne hv] at h
      obtain ⟨a, b⟩ := wipeE_fn h
      exact ⟨a, by simp only [List.mem_cons, not_or]; exact ⟨fun e => hv e.symm, b⟩⟩
theorem wipeE_get {Γ : Env} : ∀ {vs : List Nat} {i : Nat} {f : Fl} {x : A}, (wipeE Γ vs)[i]? = some (.c f x) → Γ[i]? = some (.c f x) ∧ i ∉ vs
  | [], i, f, x, h => ⟨h, by simp⟩
  | v :: vs, i, f, x, h => by
    unfold wipeE at h
    by_cases hi : v = i
    · subst hi
      by_cases hv : v < (wipeE Γ vs).length
      · rw [List.getElem?_set_self hv] at h; cases h
      · rw [List.getElem?_eq_none (by simpa using hv)] at h; cases h
    · rw [List.getElem?_set_ne hi] at h
      obtain ⟨h1, h2⟩ := wipeE_get h
      exact ⟨h1, by simp only [List.mem_cons, not_or]; exact ⟨fun e => hi e.symm, h2⟩⟩
theorem wipeE_ne {Γ : Env} : ∀ {vs : List Nat} {i : Nat}, i ∉ vs → (wipeE Γ vs)[i]? = Γ[i]?
  | [], i, h => rfl
  | v :: vs, i, h => by
    rw [List.mem_cons, not_or] at h
    unfold wipeE
    rw [List.getElem?_set_ne (Ne.symm h.1), wipeE_ne h.2]
theorem wipe_ne {σ : L2.St} : ∀ {vs : List Nat} {i : Nat}, i ∉ vs → (wipe σ vs)[i]? = σ[i]?
  | [], i, h => rfl
  | v :: vs, i, h => by
    rw [List.mem_cons, not_or] at h
    unfold wipe
    rw [List.getElem?_set_ne (Ne.symm h.1), wipe_ne h.2]
theorem wipe_in {σ : L2.St} : ∀ {vs : List Nat} {i : Nat}, i ∈ vs → i < σ.length → (wipe σ vs)[i]? = some none
  | v :: vs, i, h, hl => by
    unfold wipe
    by_cases e : v = i
    · subst e; rw [List.getElem?_set_self (by rw [wipe_length]; exact hl)]
    · rw [List.getElem?_set_ne e]
      rcases List.mem_cons.mp h with z | z
      · exact absurd z.symm e
      · exact wipe_in z hl
theorem wipe_of {σ τ : L2.St} {vs : List Nat} (hl : τ.length = σ.length) (h : ∀ j, j ∉ vs → τ[j]? = σ[j]?) : wipe τ vs = wipe σ vs := by
  apply List.ext_getElem?
  intro i
  by_cases hi : i ∈ vs
  · by_cases hb : i < σ.length
    · rw [wipe_in hi hb, wipe_in hi (by rw [hl]; exact hb)]
    · rw [List.getElem?_eq_none (by rw [wipe_length, hl]; omega), List.getElem?_eq_none (by rw [wipe_length]; omega)]
  · rw [wipe_ne hi, wipe_ne hi, h i hi]
theorem SRel.wipe (S : SRel P w K c Γ σ H) (vs : List Nat) : SRel P w K c (wipeE Γ vs) (wipe σ vs) H := by
  have cat : ∀ {i a}, CAt (wipeE Γ vs) (L2.wipe σ vs) i a → CAt Γ σ i a := fun ⟨f, x, e, hx, e2⟩ => ⟨f, x, (wipeE_get e).1, hx, (wipe_some e2).1⟩
  exact ⟨by rw [wipeE_len, wipe_length, S.len], fun i f x e => by
      obtain ⟨e1, hn⟩ := wipeE_get e
      rw [wipe_ne hn]
      exact S.rep i f x e1, fun i j a h1 h2 => S.apart i j a (cat h1) (cat h2), S.frame, S.tabs, S.there, fun i a f x e hx e2 ho => S.own i a f x (wipeE_get e).1 hx (wipe_some e2).1 ho, fun i a f x e hx e2 ho => S.bor i a f x (wipeE_get e).1 hx (wipe_some e2).1 ho, fun i n e => (by
      obtain ⟨e1, hn⟩ := wipeE_fn e
      rw [wipe_ne hn]
      exact S.fns i n e1)⟩
theorem backE_len (Γ0 Γ : Env) : ∀ vs, (backE Γ0 Γ vs).length = Γ.length
  | [] => rfl
  | v :: vs => by unfold backE; split <;> simp [backE_len Γ0 Γ vs]
theorem backE_get {Γ0 Γ : Env} (hl : Γ.length = Γ0.length) : ∀ {vs : List Nat} {i : Nat}, (backE Γ0 Γ vs)[i]? = if i ∈ vs then Γ0[i]? else Γ[i]?
  | [], i => by simp [backE]
  | v :: vs, i => by
    unfold backE
    have ih := backE_get hl (vs := vs) (i := i)
    split
    · rename_i s e
      by_cases hi : v = i
      · subst hi
        have hv := (List.getElem?_eq_some_iff.mp e).1
        rw [List.getElem?_set_self (by rw [backE_len, hl]; exact hv), if_pos (List.mem_cons_self ..), e]
      · rw [List.getElem?_set_ne hi, ih]
        by_cases hm : i ∈ vs
        · rw [if_pos hm, if_pos (List.mem_cons_of_mem _ hm)]
        · rw [if_neg hm, if_neg (by simp only [List.mem_cons, not_or]; exact ⟨fun e => hi e.symm, hm⟩)]
    · rename_i e
      rw [ih]
      by_cases hi : v = i
      · subst hi
        rw [if_pos (List.mem_cons_self ..), e]
        split
        · rfl
        · rw [List.getElem?_eq_none (by rw [hl]; exact List.getElem?_eq_none_iff.mp e)]
      · by_cases hm : i ∈ vs
        · rw [if_pos hm, if_pos (List.mem_cons_of_mem _ hm)]
        · rw [if_neg hm, if_neg (by simp only [List.mem_cons, not_or]; exact ⟨fun e => hi e.symm, hm⟩)]
/-- behind the block: the hidden slots are as they were -/
theorem Stp.unwipe (S : SRel P w K c Γ σ H) {vs : List Nat} (T : Stp P w K c (wipeE Γ vs) (wipe σ vs) H Γ1 H1) : Stp P w K c Γ σ H (backE Γ Γ1 vs) H1 := by
  have hl : Γ1.length = Γ.length := by rw [T.rel.len, wipe_length, S.len]
  have get : ∀ i : Nat, (backE Γ Γ1 vs)[i]? = if i ∈ vs then Γ[i]? else Γ1[i]? := fun i => backE_get hl
  have hid : ∀ {i a}, i ∈ vs → CAt Γ σ i a → ∀ j, ¬ CAt (wipeE Γ vs) (wipe σ vs) j a := fun {i a} hi h j ⟨f, x, e, hx, e2⟩ => by
    obtain ⟨e1, hj⟩ := wipeE_get e
    have := S.apart i j a h ⟨f, x, e1, hx, (wipe_some e2).1⟩
    exact hj (this ▸ hi)
  have vis : ∀ {i a}, CAt Γ1 (wipe σ vs) i a → CAt Γ σ i a ∧ i ∉ vs := fun {i a} h => by
    obtain ⟨f, x, e, hx, e2⟩ := T.shp i a h
    exact ⟨⟨f, x, (wipeE_get e).1, hx, (wipe_some e2).1⟩, (wipeE_get e).2⟩
  have cat : ∀ {i a}, CAt (backE Γ Γ1 vs) σ i a → CAt Γ σ i a := fun {i a} ⟨f, x, e, hx, e2⟩ => by
    rw [get] at e
    split at e
    · exact ⟨f, x, e, hx, e2⟩
    · rename_i hn
      exact (vis ⟨f, x, e, hx, by rw [wipe_ne hn]; exact e2⟩).1
  have keepH : ∀ {i a u}, i ∈ vs → CAt Γ σ i a → H a = some u → H1 a = some u := fun {i a u} hi h q => T.keep a u q (S.nTc h) (hid hi h)
  refine ⟨⟨by rw [backE_len, hl, S.len], fun i f x e => ?_, fun i j a h1 h2 => S.apart i j a (cat h1) (cat h2), T.rel.frame, T.rel.tabs, T.rel.there, fun i a f x e hx e2 ho => ?_, fun i a f x e hx e2 ho => ?_, fun i n e => (by
    rw [get] at e
    split at e
    · exact S.fns i n e
    · rename_i hn
      have := T.rel.fns i n e
      rwa [wipe_ne hn] at this)⟩, fun b o q t n => ?_, T.pers, T.back, fun i a h => cat h, fun i f x e => ?_⟩
  · rw [get] at e
    split at e
    · rename_i hi
      obtain ⟨v, e1, r⟩ := S.rep i f x e
      refine ⟨v, e1, ?_⟩
      cases hx : x.isC with
      | false => cases x with
        | d x => exact PR.mono T.pers r
        | _ => cases hx
      | true => exact r.keep T.pers fun a u ea q => keepH hi ⟨f, x, e, hx, by rw [e1, ea]⟩ q
    · rename_i hn
      obtain ⟨v, e1, r⟩ := T.rel.rep i f x e
      rw [wipe_ne hn] at e1
      exact ⟨v, e1, r⟩
  · rw [get] at e
    split at e
    · exact S.own i a f x e hx e2 ho
    · rename_i hn
      exact T.rel.own i a f x e hx (by rw [wipe_ne hn]; exact e2) ho
  · rw [get] at e
    split at e
    · exact S.bor i a f x e hx e2 ho
    · rename_i hn
      exact T.rel.bor i a f x e hx (by rw [wipe_ne hn]; exact e2) ho
  · exact T.keep b o q t fun j ⟨f, x, e, hx, e2⟩ => n j ⟨f, x, (wipeE_get e).1, hx, (wipe_some e2).1⟩
  · by_cases hi : i ∈ vs
    · exact ⟨f, x, by rw [get, if_pos hi]; exact e⟩
    · obtain ⟨f', x', e'⟩ := T.defd i f x (by rw [wipeE_ne hi]; exact e)
      exact ⟨f', x', by rw [get, if_neg hi]; exact e'⟩
/-- what a target does to the slots -/
structure BdOk (js : List Nat) (g : Bd) : Prop where
  len : ∀ d Γ Γ', g d Γ = some Γ' → Γ'.length = Γ.length
  ne : ∀ d Γ Γ', g d Γ = some Γ' → ∀ j, j ∉ js → Γ'[j]? = Γ[j]?
  cn : ∀ d Γ Γ', g d Γ = some Γ' → ∀ (j : Nat) (f : Fl) (x : A), Γ'[j]? = some (.c f x) → x.isC = true → Γ[j]? = some (.c f x)
structure BdsOk (js : List Nat) (g : Bds) : Prop where
  len : ∀ d Γ Γ', g d Γ = some Γ' → Γ'.length = Γ.length
  ne : ∀ d Γ Γ', g d Γ = some Γ' → ∀ j, j ∉ js → Γ'[j]? = Γ[j]?
  cn : ∀ d Γ Γ', g d Γ = some Γ' → ∀ (j : Nat) (f : Fl) (x : A), Γ'[j]? = some (.c f x) → x.isC = true → Γ[j]? = some (.c f x)
theorem bd_name (i : Nat) : BdOk [i] (gvName i) := by
  have h : ∀ d Γ Γ', gvName i d Γ = some Γ' → Γ' = Γ.set i (.c ⟨true⟩ (.d d)) := fun d Γ Γ' e => by
    unfold gvName setO at e
    split at e
    · cases e; rfl
    · cases e
  refine ⟨fun d Γ Γ' e => by rw [h d Γ Γ' e, List.length_set], fun d Γ Γ' e j hj => ?_, fun d Γ Γ' e j f x ex hx => ?_⟩
  · rw [h d Γ Γ' e, List.getElem?_set_ne (by simpa using Ne.symm (by simpa using hj : j ≠ i))]
  · rw [h d Γ Γ' e] at ex
    by_cases hj : i = j
    · subst hj
      by_cases hl : i < Γ.length
      · rw [List.getElem?_set_self hl] at ex; cases ex; cases hx
      · rw [List.getElem?_eq_none (by simpa using hl)] at ex; cases ex
    · rw [List.getElem?_set_ne hj] at ex; exact ex
theorem bds_nil : BdsOk [] gvNil := by
  have h : ∀ d Γ Γ', gvNil d Γ = some Γ' → Γ' = Γ := fun d Γ Γ' e => by
    cases d with
    | nil => cases e; rfl
    | cons => cases e
  exact ⟨fun d Γ Γ' e => by rw [h d Γ Γ' e], fun d Γ Γ' e j _ => by rw [h d Γ Γ' e], fun d Γ Γ' e j f x ex _ => by rw [h d Γ Γ' e] at ex; exact ex⟩
theorem bds_cons {js ks : List Nat} {g : Bd} {h : Bds} (a : BdOk js g) (b : BdsOk ks h) : BdsOk (js ++ ks) (gvCons g h) := by
  have key : ∀ d Γ Γ', gvCons g h d Γ = some Γ' → ∃ x ds Γ1, g x Γ = some Γ1 ∧ h ds Γ1 = some Γ' := fun d Γ Γ' e => by
    cases d with
    | nil => cases e
    | cons d ds =>
      obtain ⟨Γ1, e1, e2⟩ := Option.bind_eq_some_iff.mp e
      exact ⟨d, ds, Γ1, e1, e2⟩
  refine ⟨fun d Γ Γ' e => ?_, fun d Γ Γ' e j hj => ?_, fun d Γ Γ' e j f x ex hx => ?_⟩
  · obtain ⟨x, ds, Γ1, e1, e2⟩ := key d Γ Γ' e
    exact (b.len _ _ _ e2).trans (a.len _ _ _ e1)
  · obtain ⟨x, ds, Γ1, e1, e2⟩ := key d Γ Γ' e
    rw [List.mem_append, not_or] at hj
    exact (b.ne _ _ _ e2 j hj.2).trans (a.ne _ _ _ e1 j hj.1)
  · obtain ⟨x', ds, Γ1, e1, e2⟩ := key d Γ Γ' e
    exact a.cn _ _ _ e1 j f x (b.cn _ _ _ e2 j f x ex hx) hx
theorem bd_tup {n : Nat} {js : List Nat} {h : Bds} (b : BdsOk js h) : BdOk js (gvTup n h) := by
  have key : ∀ d Γ Γ', gvTup n h d Γ = some Γ' → ∃ ds, h ds Γ = some Γ' := fun d Γ Γ' e => by
    unfold gvTup at e
    split at e
    · split at e
      · exact ⟨_, e⟩
      · cases e
    · cases e
  refine ⟨fun d Γ Γ' e => ?_, fun d Γ Γ' e j hj => ?_, fun d Γ Γ' e j f x ex hx => ?_⟩
  · obtain ⟨ds, e⟩ := key d Γ Γ' e
    exact b.len _ _ _ e
  · obtain ⟨ds, e⟩ := key d Γ Γ' e
    exact b.ne _ _ _ e j hj
  · obtain ⟨ds, e⟩ := key d Γ Γ' e
    exact b.cn _ _ _ e j f x ex hx
/-- a list of nobody's grows -/
theorem SRel.free (S : SRel P w K c Γ σ H) {D : Addr} {vs ws : List V} (h : H D = some (.lst vs)) (h0 : c.H0 D = none) (n : ∀ i, ¬ CAt Γ σ i D) : SRel P w K c Γ σ (upd H D (.lst ws)) := by
  have pe := upd_pers (ws := ws) h
  refine ⟨S.len, fun i f x e => ?_, S.apart, fun b o q t z => ?_, tabs_upd (P := P) (w := w) S.tabs h (.lst _), fun i b q z => ?_, S.own, S.bor, S.fns⟩
  · obtain ⟨v, e1, r⟩ := S.rep i f x e
    refine ⟨v, e1, ?_⟩
    cases hx : x.isC with
    | false => cases x with
      | d x => exact PR.mono pe r
      | _ => cases hx
    | true =>
      refine r.keep pe fun a u ea q => ?_
      have : a ≠ D := fun z => n i ⟨f, x, e, hx, by rw [e1, ea, z]⟩
      rw [upd_ne this]
      exact q
  · have : b ≠ D := fun y => by subst y; rw [h0] at q; cases q
    rw [upd_ne this]
    exact S.frame b o q t z
  · by_cases y : b = D
    · subst y; rw [upd_same] at z; cases z
    · rw [upd_ne y] at z; exact S.there i b q z
theorem Stp.free (T : Stp P w K c Γ σ H Γ1 H1) {D : Addr} {vs ws : List V} (h : H1 D = some (.lst vs)) (hD : H D = none) (h0 : c.H0 D = none) (n : ∀ i, ¬ CAt Γ1 σ i D) : Stp P w K c Γ σ H Γ1 (upd H1 D (.lst ws)) :=
  ⟨T.rel.free h h0 n, fun b o q t z => by rw [upd_ne (ne_of_none q hD)]; exact T.keep b o q t z, T.pers.trans (upd_pers h), fun p q => by
    by_cases y : p = D
    · rw [y]; exact hD
    · rw [upd_ne y] at q; exact T.back p q, T.shp, T.defd⟩
theorem turnStp {g : Bd} {d : Iv.D} {vs js : List Nat} {Γw Γi Γb Γ3 : Env} {σ2 : L2.St} {H3 H5 : Hp} (bo : BdOk js g) (hjs : ∀ j ∈ js, j ∈ vs) (T : Stp P w K c Γw (wipe σ vs) H1 (wipeE Γi vs) H2) (sm : Same H2 H3) (eg : g d (wipeE Γi vs) = some Γb)
    (hw : wipe σ2 vs = wipe σ vs) (hσ : ∀ j : Nat, j ∉ js → σ2[j]? = (wipe σ vs)[j]?) (Tt : Stp P w K c Γb σ2 H3 Γ3 H5) : Stp P w K c Γw (wipe σ vs) H1 (wipeE Γ3 vs) H5 ∧ (∀ i a, CAt Γb σ2 i a → CAt Γw (wipe σ vs) i a) := by
  have cb : ∀ i a, CAt Γb σ2 i a → CAt (wipeE Γi vs) (wipe σ vs) i a := fun i a ⟨f, x, e, hx, e2⟩ => by
    have e1 := bo.cn _ _ _ eg i f x e hx
    have hi := (wipeE_get e1).2
    exact ⟨f, x, e1, hx, by rw [← hσ i fun z => hi (hjs i z)]; exact e2⟩
  have cb2 : ∀ i a, CAt Γb σ2 i a → CAt Γw (wipe σ vs) i a := fun i a h => T.shp i a (cb i a h)
  refine ⟨⟨by have := Tt.rel.wipe vs; rwa [hw] at this, fun b o q t n => Tt.keep b o (sm b o (T.keep b o q t n)) t fun i h => n i (cb2 i b h), (T.pers.trans (Pers.same sm)).trans Tt.pers, fun p q => T.back p (sm.free (Tt.back p q)), fun i a ⟨f, x, e, hx, e2⟩ => ?_, fun i f x e => ?_⟩, cb2⟩
  · obtain ⟨e1, hi⟩ := wipeE_get e
    exact cb2 i a (Tt.shp i a ⟨f, x, e1, hx, by rw [hσ i fun z => hi (hjs i z)]; exact e2⟩)
  · obtain ⟨f', x', e'⟩ := T.defd i f x e
    have hi := (wipeE_get e').2
    obtain ⟨f2, x2, e2⟩ := Tt.defd i f' x' (by rw [bo.ne _ _ _ eg i fun z => hi (hjs i z)]; exact e')
    exact ⟨f2, x2, by rw [wipeE_ne hi]; exact e2⟩
theorem tLcE {f : M (List Iv.D)} {g : Bd} {t : M Bool} {e : M R} {vs js : List Nat} {Q : VK} (bo : BdOk js g) (hjs : ∀ j ∈ js, j ∈ vs) (q : tE P w K Tb (evLc f g t e vs) E σ H Q) :
    tLc (tIt P w K Tb f E) (tG P w K Tb js g) (tT P w K Tb t E0) (tE P w K Tb (fz e) E0) vs σ H Q := by
  obtain ⟨c, Γ, S, q⟩ := q
  refine ⟨c, Γ, S, (Aft_bnd.mp q).imp fun ds Γ0 _ q J H1 T0 ok Dn hD => ?_⟩
  have hD0 : c.H0 Dn = none := T0.rel.fresh hD
  have ntD : nT Tb Dn := nT_fresh T0.rel.tabs hD
  have S0 := T0.rel
  have q := Aft_bnd.mp q
  have nD : ∀ i, ¬ CAt (wipeE Γ0 vs) (wipe σ vs) i Dn := fun i h => (S0.wipe vs).cne hD h
  refine lc_it ok (fun i H' => Pers H1 H' ∧ ∃ Γi out vo, Stp P w K c (wipeE Γ0 vs) (wipe σ vs) H1 (wipeE Γi vs) H' ∧ H' Dn = some (.lst vo) ∧ PRs P w K H' vo out ∧
      Aft (evLcLoop g t e vs (ds.drop i) out Γi) (fun x => XPost P w K c x E) fun out Γ' => Aft (some (.ok (R.a (.l out), backE Γ0 (wipeE Γ' vs) vs)) : Res R) (fun x => XPost P w K c x E) fun r Γ' => ∀ v H', Stp P w K c Γ σ H Γ' H' → RRep P w K c Γ' σ H H' v r → Q v H')
    ⟨Pers.same (same_upd hD), Γ0, [], [], Stp.same (S0.wipe vs) (same_upd hD), upd_same, .nil, q⟩ (fun i H' _ h => h.1) ?_ ?_
  · intro i x H2 H3 hi ⟨p2, Γi, out, vo, T, hd, ro, q⟩ ⟨sm, d, ed, pd⟩
    have e1 : ds.drop i = d :: ds.drop (i + 1) := by
      have := List.drop_eq_getElem_cons hi
      rw [this]
      rw [List.getElem?_eq_getElem hi] at ed
      cases ed
      rfl
    rw [e1] at q
    unfold evLcLoop at q
    split at q
    · exact q.elim
    · rename_i Γb eg
      refine ⟨c, wipeE Γi vs, d, Γb, T.rel.same sm, pd, eg, fun σ2 S2 hσ => ?_⟩
      have hlen : σ2.length = σ.length := by rw [← S2.len, bo.len _ _ _ eg, T.rel.len, wipe_length]
      have hw : wipe σ2 vs = wipe σ vs := by
        refine (wipe_of (σ := L2.wipe σ vs) (by rw [wipe_length]; exact hlen) fun j hj => hσ j fun z => hj (hjs j z)).trans ?_
        exact (wipe_of (σ := σ) (wipe_length σ vs) fun j hj => wipe_ne hj)
      refine ⟨hw, c, Γb, S2, (Aft.nox (Aft_bnd.mp q)).imp fun b Γ2 _ q H4 T2 => ?_⟩
      obtain ⟨TA, cb⟩ := turnStp bo hjs T sm eg hw hσ T2
      have hd4 : H4 Dn = some (.lst vo) := T2.keep Dn _ (sm _ _ hd) ntD fun j h => nD j (cb j Dn h)
      cases b with
      | false => exact iteF ⟨TA.pers, Γ2, out, vo, TA, hd4, ro.mono ((Pers.same sm).trans T2.pers), q⟩
      | true =>
        refine iteT ⟨c, Γ2, T2.rel, (Aft.nox (Aft_bnd.mp (show Aft (bnd (nox (fz e Γ2)) _) _ _ from q))).imp fun r Γ3 _ q y H5 T3 rr => ?_⟩
        have T23 := T2.trans T3
        obtain ⟨TB, cb'⟩ := turnStp bo hjs T sm eg hw hσ T23
        have hd5 : H5 Dn = some (.lst vo) := T23.keep Dn _ (sm _ _ hd) ntD fun j h => nD j (cb' j Dn h)
        have ro5 : PRs P w K H5 vo out := ro.mono ((Pers.same sm).trans T23.pers)
        split at q
        · rename_i x' hx
          split at q
          · rename_i hl
            have fr : FRep P w K Γ3 σ2 H5 y r := by
              cases r with
              | sl j => simp [datas] at hx
              | a z =>
                cases z with
                | d z => exact ⟨rfl, rr.1⟩
                | l z => simp [datas] at hx
                | m z => simp [datas] at hx
            obtain ⟨y', ey, py⟩ := (datas_rep (.cons fr .nil) hx).one
            cases ey
            refine ⟨vo, hd5, by rw [ro5.length, ← lim_eq]; exact hl, TB.pers.trans (upd_pers hd5), Γ3, out ++ [x'], vo ++ [y], TB.free hd5 hD hD0 (fun j h => nD j (TB.shp j Dn h)), upd_same, (ro5.append (.cons py .nil)).mono (upd_pers hd5), q⟩
          · exact q.elim
        · exact q.elim
  · intro H2 ⟨p2, Γi, out, vo, T, hd, ro, q⟩
    rw [List.drop_length] at q
    have q : ∀ v H', Stp P w K c Γ σ H (backE Γ0 (wipeE Γi vs) vs) H' → RRep P w K c (backE Γ0 (wipeE Γi vs) vs) σ H H' v (.a (.l out)) → Q v H' := q
    have TU : Stp P w K c Γ0 σ H1 (backE Γ0 (wipeE Γi vs) vs) H2 := Stp.unwipe S0 T
    refine q (.ref Dn) H2 (T0.trans TU) ⟨⟨Dn, vo, rfl, hd, ro⟩, fun _ => ⟨Dn, rfl, T0.back Dn hD, fun j h => ?_⟩⟩
    exact S0.cne hD (TU.shp j Dn h)
/-- [e for tg in it if ..] -/
theorem pe_lcE {elt tg iter : Expr} {ifs : List Expr} {scope : Scope} {own : List (Str × Nat)} {pos : Pos} {f : M (List Iv.D)} {js : List Nat} {g : Bd} {t : M Bool} {e : M R} (hc : X.calm = true) (hN : X.N.Nodup) (hi : PI X tg iter (tIt P w K Tb f E)) (ok : BlkOk X.N X.env.scope scope own)
    (hg : ∀ (s : Shared) (H : Hp) (C : Addr) (cl : List (Str × Addr)) (fp : List Addr), PG (X.blk s H scope (compEnvC scope cl C X.env) fp) tg (tG P w K Tb js g)) (ht : ∀ (s : Shared) (H : Hp) (C : Addr) (cl : List (Str × Addr)) (fp : List Addr), PTs (X.blk s H scope (compEnvC scope cl C X.env) fp) ifs (tT P w K Tb t E0))
    (he : ∀ (s : Shared) (H : Hp) (C : Addr) (cl : List (Str × Addr)) (fp : List Addr), PE (X.blk s H scope (compEnvC scope cl C X.env) fp) elt (tE P w K Tb e E0)) (hs : ∀ x, foldedSetIterable iter X.env x = pure x) (bo : BdOk js g) (hjs : ∀ j ∈ js, j ∈ own.map (·.2)) :
    PE X (.ListComp elt [⟨tg, iter, ifs, 0⟩] scope pos) (tE P w K Tb (evLc f g t e (own.map (·.2))) E) :=
  PE.weak (pe_lc hc hN hi ok hg ht (fun s H C cl fp => pe_fzE (he s H C cl fp)) hs) fun _ _ _ q => tLcE bo hjs q
/-- y = [e for tg in it if ..], on one line, y a local -/
theorem ps_setLcE {i : Nat} {y : Str} {py : Pos} {elt tg iter : Expr} {ifs : List Expr} {scope : Scope} {own : List (Str × Nat)} {pos spos : Pos} {f : M (List Iv.D)} {js : List Nat} {g : Bd} {t : M Bool} {e : M R} (hc : X.calm = true) (hN : X.N.Nodup) (hy : X.N[i]? = some y) (hyl : X.env.scope.names.lookup y = some .local)
    (hsw : swapsWith (.ListComp elt [⟨tg, iter, ifs, 0⟩] scope pos) (some (.Name y py)) spos.line X.env = pure true) (hi : PI X tg iter (tIt P w K Tb f E)) (ok : BlkOk X.N X.env.scope scope own)
    (hg : ∀ (s : Shared) (H : Hp) (C : Addr) (cl : List (Str × Addr)) (fp : List Addr), PG (X.blk s H scope (compEnvC scope cl C X.env) fp) tg (tG P w K Tb js g)) (ht : ∀ (s : Shared) (H : Hp) (C : Addr) (cl : List (Str × Addr)) (fp : List Addr), PTs (X.blk s H scope (compEnvC scope cl C X.env) fp) ifs (tT P w K Tb t E0))
    (he : ∀ (s : Shared) (H : Hp) (C : Addr) (cl : List (Str × Addr)) (fp : List Addr), PE (X.blk s H scope (compEnvC scope cl C X.env) fp) elt (tE P w K Tb e E0)) (hs : ∀ x, foldedSetIterable iter X.env x = pure x) (bo : BdOk js g) (hjs : ∀ j ∈ js, j ∈ own.map (·.2)) :
    PS X (.Assign [.Name y py] (.ListComp elt [⟨tg, iter, ifs, 0⟩] scope pos) spos) (tS P w K Tb (evSet i (evLc f g t e (own.map (·.2)))) E) :=
  ps_setE (PS.weak (ps_setLc hc hN hy hyl hsw hi ok hg ht (fun s H C cl fp => pe_fzE (he s H C cl fp)) hs) fun _ _ _ q => tLcE bo hjs q)
end
end Iv
set_option Elab.async false
set_option linter.all false
set_option maxRecDepth 100000
set_option maxHeartbeats 1000000
/-! Iv: defs: what a call does, a def's promise by its body. -/
namespace Iv
open PySem L2

abbrev Fn := List A → Option (Except Exc (A × List A))
def argA (Γ : Env) : R → Option A
  | .a (.d x) => some (.d x)
  | .a _ => none
  | .sl i => slA Γ i
def argsA (Γ : Env) : List R → Option (List A)
  | [] => some []
  | r :: rs => match argA Γ r, argsA Γ rs with
    | some a, some as => some (a :: as)
    | _, _ => none
def slots : List R → List Nat
  | [] => []
  | .sl i :: rs => i :: slots rs
  | .a _ :: rs => slots rs
def look : List R → List A → Nat → Option A
  | .sl j :: rs, a :: as, i => if j = i then some a else look rs as i
  | .a _ :: rs, _ :: as, i => look rs as i
  | _, _, _ => none
def putB (Γ : Env) : List R → List A → Env
  | .sl j :: rs, a :: as => putB (match Γ[j]? with
    | some (.c f x) => if x.isC then Γ.set j (.c f a) else Γ
    | _ => Γ) rs as
  | .a _ :: rs, _ :: as => putB Γ rs as
  | _, _ => Γ
def sameC : List A → List A → Bool
  | [], [] => true
  | a :: as, b :: bs => (a.isC == b.isC) && sameC as bs
  | _, _ => false
def nodupB : List Nat → Bool
  | [] => true
  | x :: xs => !xs.contains x && nodupB xs
def evCall (F : Fn) (g : M (List R)) : M R := fun Γ => bnd (g Γ) fun rs Γ => match argsA Γ rs with
  | none => none
  | some as => if nodupB (slots rs) then match F as with
      | none => none
      | some (.error x) => some (.error x)
      | some (.ok (z, as')) => if sameC as as' then some (.ok (.a z, putB Γ rs as')) else none
    else none
def Aft2 (x : Option (Except Exc (A × List A))) (Ex : Exc → Prop) (Q : A → List A → Prop) : Prop := match x with
  | none => False
  | some (.error e) => Ex e
  | some (.ok (z, as)) => Q z as
def cAt (vs : List V) (as : List A) (i : Nat) (a : Addr) : Prop := vs[i]? = some (.ref a) ∧ ∃ x, as[i]? = some x ∧ x.isC = true
section
variable (P : Program) (w : World) (K : PySem.W.Frag)
inductive AReps (H : Hp) : List V → List A → Prop
  | nil : AReps H [] []
  | cons {v : V} {a : A} {vs : List V} {as : List A} : ARep P w K H v a → AReps H vs as → AReps H (v :: vs) (a :: as)
/-- a def's promise -/
def FnSp (Tb : List (Addr × Str)) (np : Nat) (F : Fn) : Sp := fun vs H Q E => LamX.Tabs Tb H ∧ ∃ as, as.length = np ∧ AReps P w K H vs as ∧ (∀ i j a, cAt vs as i a → cAt vs as j a → i = j) ∧
  Aft2 (F as) (fun x => ∀ cls d H', (∀ b o, H b = some o → nT Tb b → (∀ i, ¬ cAt vs as i b) → H' b = some o) → LamX.Tabs Tb H' → XRep P w K x cls d H' → E cls d H') fun z as' =>
    ∀ v H', (∀ b o, H b = some o → nT Tb b → (∀ i, ¬ cAt vs as i b) → H' b = some o) → LamX.Tabs Tb H' → Pers H H' → (∀ p, H' p = none → H p = none) → AReps P w K H' vs as' → ANew P w K H H' v z → Q v H'
end
section
variable {P : Program} {w : World} {K : PySem.W.Frag} {Tb : List (Addr × Str)} {c : Ctx Tb} {Γ Γ' Γ1 Γ2 : Env} {σ σ' : L2.St} {H H' H1 H2 : Hp} {E : XK} {X : Cx} {D : Ends}
theorem AReps.len {vs : List V} {as : List A} (h : AReps P w K H vs as) : vs.length = as.length := by
  induction h with
  | nil => rfl
  | cons _ _ ih => simp [ih]
theorem AReps.get {vs : List V} {as : List A} (h : AReps P w K H vs as) : ∀ {i : Nat} {a : A}, as[i]? = some a → ∃ v, vs[i]? = some v ∧ ARep P w K H v a := by
  induction h with
  | nil => intro i a e; simp at e
  | cons h _ ih =>
    intro i a e
    cases i with
    | zero => simp at e; subst e; exact ⟨_, rfl, h⟩
    | succ i => simpa using ih (by simpa using e)
/-- the arguments of a call -/
theorem args_of (S : SRel P w K c Γ σ H) {vs : List V} {rs : List R} (fr : FReps P w K Γ σ H vs rs) : ∀ {as : List A}, argsA Γ rs = some as → AReps P w K H vs as ∧
    (∀ i (a : Addr), cAt vs as i a → ∃ j, rs[i]? = some (.sl j) ∧ CAt Γ σ j a) := by
  induction fr with
  | nil => intro as e; cases e; exact ⟨.nil, fun i a h => by simp [cAt] at h⟩
  | @cons v r vs rs h _ ih =>
    intro as e
    unfold argsA at e
    split at e
    · rename_i a as' e1 e2
      cases e
      obtain ⟨r1, k1⟩ := ih e2
      have hd : ARep P w K H v a ∧ (a.isC = true → ∃ j, r = .sl j ∧ ∀ p, v = .ref p → CAt Γ σ j p) := by
        cases r with
        | a x =>
          cases x with
          | d x => cases e1; exact ⟨h.2, fun z => nomatch z⟩
          | _ => cases e1
        | sl i =>
          obtain ⟨e3, f, x, e4⟩ := h
          have e1 : slA Γ i = some a := e1
          unfold slA at e1
          rw [e4] at e1
          cases e1
          obtain ⟨v', e5, r⟩ := S.rep i f _ e4
          rw [e3] at e5
          cases e5
          exact ⟨r, fun hx => ⟨i, rfl, fun p ep => ⟨f, _, e4, hx, by rw [← ep]; exact e3⟩⟩⟩
      refine ⟨.cons hd.1 r1, fun i p hp => ?_⟩
      cases i with
      | zero =>
        obtain ⟨ev, x, ex, hx⟩ := hp
        simp at ev ex
        subst ex
        obtain ⟨j, e, q⟩ := hd.2 hx
        exact ⟨j, by simp [e], q p ev⟩
      | succ i => simpa using k1 i p (by simpa [cAt] using hp)
    · cases e
theorem mem_slots : ∀ {rs : List R} {i k : Nat}, rs[i]? = some (R.sl k) → k ∈ slots rs
  | [], i, k, h => by simp at h
  | r :: rs, 0, k, h => by simp at h; subst h; exact List.mem_cons_self ..
  | r :: rs, i + 1, k, h => by
    have := mem_slots (rs := rs) (i := i) (k := k) (by simpa using h)
    cases r with
    | a _ => exact this
    | sl _ => exact List.mem_cons_of_mem _ this
theorem nodup_cons {m : Nat} {rs : List R} (h : nodupB (slots (R.sl m :: rs)) = true) : m ∉ slots rs ∧ nodupB (slots rs) = true := by
  have hn : (!(slots rs).contains m && nodupB (slots rs)) = true := h
  rw [Bool.and_eq_true] at hn
  exact ⟨by simpa using hn.1, hn.2⟩
theorem nodupB_at : ∀ {rs : List R}, nodupB (slots rs) = true → ∀ {i j k : Nat}, rs[i]? = some (R.sl k) → rs[j]? = some (R.sl k) → i = j
  | [], _, i, j, k, h, _ => by simp at h
  | .a _ :: rs, hn, 0, j, k, h1, h2 => by simp at h1
  | .a _ :: rs, hn, i + 1, 0, k, h1, h2 => by simp at h2
  | .a _ :: rs, hn, i + 1, j + 1, k, h1, h2 => by rw [nodupB_at (rs := rs) hn (i := i) (j := j) (k := k) (by simpa using h1) (by simpa using h2)]
  | .sl m :: rs, hn, 0, 0, k, h1, h2 => rfl
  | .sl m :: rs, hn, 0, j + 1, k, h1, h2 => by
    simp at h1
    subst h1
    exact absurd (mem_slots (rs := rs) (i := j) (by simpa using h2)) (nodup_cons hn).1
  | .sl m :: rs, hn, i + 1, 0, k, h1, h2 => by
    simp at h2
    subst h2
    exact absurd (mem_slots (rs := rs) (i := i) (by simpa using h1)) (nodup_cons hn).1
  | .sl m :: rs, hn, i + 1, j + 1, k, h1, h2 => by rw [nodupB_at (rs := rs) (nodup_cons hn).2 (i := i) (j := j) (k := k) (by simpa using h1) (by simpa using h2)]
theorem look_at : ∀ {rs : List R} {as : List A} {i : Nat} {a : A}, look rs as i = some a → ∃ k : Nat, rs[k]? = some (R.sl i) ∧ as[k]? = some a
  | [], as, i, a, h => by cases as <;> simp [look] at h
  | .a _ :: rs, [], i, a, h => by simp [look] at h
  | .sl _ :: rs, [], i, a, h => by simp [look] at h
  | .a _ :: rs, b :: as, i, a, h => by
    obtain ⟨k, h1, h2⟩ := look_at (rs := rs) (as := as) (i := i) (a := a) (by simpa [look] using h)
    exact ⟨k + 1, by simpa using h1, by simpa using h2⟩
  | .sl j :: rs, b :: as, i, a, h => by
    unfold look at h
    split at h
    · rename_i e
      obtain rfl := Option.some.inj h
      subst e
      exact ⟨0, rfl, rfl⟩
    · obtain ⟨k, h1, h2⟩ := look_at h
      exact ⟨k + 1, by simpa using h1, by simpa using h2⟩
theorem look_none : ∀ {rs : List R} {as : List A} {i k : Nat}, rs.length = as.length → rs[k]? = some (.sl i) → look rs as i ≠ none
  | [], as, i, k, _, h => by simp at h
  | .a _ :: rs, [], i, k, hl, h => by simp at hl
  | .sl _ :: rs, [], i, k, hl, h => by simp at hl
  | .a _ :: rs, b :: as, i, k, hl, h => by
    cases k with
    | zero => simp at h
    | succ k =>
      show look rs as i ≠ none
      exact look_none (by simpa using hl) (by simpa using h)
  | .sl j :: rs, b :: as, i, k, hl, h => by
    unfold look
    split
    · intro z; cases z
    · rename_i hj
      cases k with
      | zero => simp at h; exact absurd h hj
      | succ k => exact look_none (by simpa using hl) (by simpa using h)
theorem putB_len : ∀ {rs : List R} {as : List A} {Γ : Env}, (putB Γ rs as).length = Γ.length
  | [], as, Γ => by cases as <;> rfl
  | .a _ :: rs, [], Γ => rfl
  | .sl _ :: rs, [], Γ => rfl
  | .a _ :: rs, b :: as, Γ => by
    show (putB Γ rs as).length = _
    exact putB_len
  | .sl j :: rs, b :: as, Γ => by
    unfold putB
    rw [putB_len]
    split
    · split
      · rw [List.length_set]
      · rfl
    · rfl
/-- a slot behind a call -/
theorem putB_get : ∀ {rs : List R} {as : List A} {Γ : Env} {i : Nat}, nodupB (slots rs) = true → (putB Γ rs as)[i]? = match Γ[i]?, look rs as i with
    | some (.c f x), some a => if x.isC then some (.c f a) else some (.c f x)
    | s, _ => s
  | [], as, Γ, i, _ => by
    cases as <;> (show Γ[i]? = _; simp only [look]; split <;> simp_all)
  | .a _ :: rs, [], Γ, i, _ => by show Γ[i]? = _; simp only [look]; split <;> simp_all
  | .sl _ :: rs, [], Γ, i, _ => by show Γ[i]? = _; simp only [look]; split <;> simp_all
  | .a _ :: rs, b :: as, Γ, i, hn => by
    show (putB Γ rs as)[i]? = _
    rw [putB_get (rs := rs) hn]
    rfl
  | .sl j :: rs, b :: as, Γ, i, hn => by
    obtain ⟨no, hn⟩ := nodup_cons hn
    have ln : look rs as j = none := by
      cases h : look rs as j with
      | none => rfl
      | some a =>
        obtain ⟨k, h1, _⟩ := look_at h
        exact absurd (mem_slots h1) no
    unfold putB look
    rw [putB_get (rs := rs) hn]
    by_cases hj : j = i
    · subst hj
      rw [if_pos rfl, ln]
      cases e : Γ[j]? with
      | none => simp [e]
      | some s =>
        cases s with
        | un => simp [e]
        | fn => simp [e]
        | c f x =>
          have hl := (List.getElem?_eq_some_iff.mp e).1
          by_cases hx : x.isC = true
          · simp only [hx, if_true, List.getElem?_set_self hl]
          · simp only [Bool.not_eq_true] at hx
            simp only [hx, Bool.false_eq_true, if_false, e]
    · rw [if_neg hj]
      have : (match Γ[j]? with | some (.c f x) => if x.isC then Γ.set j (.c f b) else Γ | _ => Γ)[i]? = Γ[i]? := by
        split
        · split
          · rw [List.getElem?_set_ne hj]
          · rfl
        · rfl
      rw [this]
theorem FReps.len {vs : List V} {rs : List R} (h : FReps P w K Γ σ H vs rs) : vs.length = rs.length := by
  induction h with
  | nil => rfl
  | cons _ _ ih => simp [ih]
theorem FReps.get {vs : List V} {rs : List R} (h : FReps P w K Γ σ H vs rs) : ∀ {i : Nat} {r : R}, rs[i]? = some r → ∃ v, vs[i]? = some v ∧ FRep P w K Γ σ H v r := by
  induction h with
  | nil => intro i a e; simp at e
  | cons h _ ih =>
    intro i a e
    cases i with
    | zero => simp at e; subst e; exact ⟨_, rfl, h⟩
    | succ i => simpa using ih (by simpa using e)
theorem sameC_at : ∀ {as bs : List A}, sameC as bs = true → as.length = bs.length ∧ ∀ {i : Nat} {a b : A}, as[i]? = some a → bs[i]? = some b → a.isC = b.isC
  | [], [], _ => ⟨rfl, fun h => by simp at h⟩
  | [], _ :: _, h => by cases h
  | _ :: _, [], h => by cases h
  | a :: as, b :: bs, h => by
    have h : ((a.isC == b.isC) && sameC as bs) = true := h
    rw [Bool.and_eq_true] at h
    obtain ⟨h1, h2⟩ := sameC_at h.2
    refine ⟨by simp [h1], fun {i x y} e1 e2 => ?_⟩
    cases i with
    | zero => simp at e1 e2; subst e1 e2; simpa using h.1
    | succ i => exact h2 (by simpa using e1) (by simpa using e2)
/-- behind a call -/
theorem Stp.called (S : SRel P w K c Γ σ H) {vs : List V} {rs : List R} {as as' : List A} (fr : FReps P w K Γ σ H vs rs) (ea : argsA Γ rs = some as) (nd : nodupB (slots rs) = true) (sc : sameC as as' = true)
    (keep : ∀ b o, H b = some o → nT Tb b → (∀ i, ¬ cAt vs as i b) → H' b = some o) (tb : LamX.Tabs Tb H') (pe : Pers H H') (back : ∀ p, H' p = none → H p = none) (ra : AReps P w K H' vs as') : Stp P w K c Γ σ H (putB Γ rs as') H' := by
  obtain ⟨ar, ca⟩ := args_of S fr ea
  obtain ⟨sl, sk⟩ := sameC_at sc
  have rl : rs.length = as'.length := by rw [← fr.len, ar.len, sl]
  have notarg : ∀ {i b}, CAt Γ σ i b → (∀ k : Nat, rs[k]? ≠ some (R.sl i)) → ∀ k, ¬ cAt vs as k b := fun {i b} h n k hk => by
    obtain ⟨j, e, q⟩ := ca k b hk
    rw [S.apart j i b q h] at e
    exact n k e
  -- a slot behind the call
  have get : ∀ (i : Nat) (f : Fl) (x : A), (putB Γ rs as')[i]? = some (.c f x) → (Γ[i]? = some (.c f x) ∧ (x.isC = true → ∀ k : Nat, rs[k]? ≠ some (R.sl i))) ∨ (∃ x0 k, Γ[i]? = some (.c f x0) ∧ x0.isC = true ∧ rs[k]? = some (R.sl i) ∧ as'[k]? = some x ∧ x.isC = true) := fun i f x e => by
    rw [putB_get nd] at e
    split at e
    · rename_i f0 x0 a e1 e2
      obtain ⟨k, h1, h2⟩ := look_at e2
      split at e
      · rename_i hx
        cases e
        refine .inr ⟨x0, k, e1, hx, h1, h2, ?_⟩
        obtain ⟨v, ev, fv⟩ := fr.get h1
        have hk : ∃ a0, as[k]? = some a0 := by
          have : k < as.length := by rw [← ar.len]; exact (List.getElem?_eq_some_iff.mp ev).1
          exact ⟨as[k], by simp [this]⟩
        obtain ⟨a0, ha0⟩ := hk
        rw [← sk ha0 h2]
        -- the argument is the slot's content
        have : ∀ {rs : List R} {as : List A} {k : Nat} {a0 : A}, argsA Γ rs = some as → rs[k]? = some (R.sl i) → as[k]? = some a0 → slA Γ i = some a0 := by
          intro rs
          induction rs with
          | nil => intro as k a0 _ h _; simp at h
          | cons r rs ih =>
            intro as k a0 e hk h0
            unfold argsA at e
            split at e
            · rename_i a as' e1 e2
              cases e
              cases k with
              | zero => simp at hk h0; subst hk h0; exact e1
              | succ k => exact ih e2 (by simpa using hk) (by simpa using h0)
            · cases e
        have := this ea h1 ha0
        unfold slA at this
        rw [e1] at this
        cases this
        exact hx
      · rename_i hx
        cases e
        exact .inl ⟨e1, fun z => absurd z hx⟩
    · rename_i hne
      refine .inl ⟨e, fun hx k hk => ?_⟩
      have ln := look_none (as := as') rl hk
      cases h : look rs as' i with
      | none => exact ln h
      | some a => exact hne f x a e h
  have cat : ∀ i a, CAt (putB Γ rs as') σ i a → CAt Γ σ i a := fun i a ⟨f, x, e, hx, e2⟩ => by
    rcases get i f x e with ⟨e1, _⟩ | ⟨x0, k, e1, hx0, _⟩
    · exact ⟨f, x, e1, hx, e2⟩
    · exact ⟨f, x0, e1, hx0, e2⟩
  refine ⟨⟨by rw [putB_len, S.len], fun i f x e => ?_, fun i j a h1 h2 => S.apart i j a (cat i a h1) (cat j a h2), fun b o q t n => ?_, tb, fun i b q z => S.there i b q (back b z), fun i a f x e hx e2 ho => ?_, fun i a f x e hx e2 ho => ?_, fun i n e => (by
    rw [putB_get nd] at e
    split at e
    · split at e <;> cases e
    · exact S.fns i n e)⟩, fun b o q t n => ?_, pe, back, cat, fun i f x e => ?_⟩
  · rcases get i f x e with ⟨e1, hn⟩ | ⟨x0, k, e1, hx0, hk, hak, hx⟩
    · obtain ⟨v, e2, r⟩ := S.rep i f x e1
      refine ⟨v, e2, ?_⟩
      cases hx : x.isC with
      | false => cases x with
        | d x => exact PR.mono pe r
        | _ => cases hx
      | true => exact r.keep pe fun a u ea' q => keep a u q (S.nTc ⟨f, x, e1, hx, by rw [e2, ea']⟩) (notarg ⟨f, x, e1, hx, by rw [e2, ea']⟩ (hn hx))
    · obtain ⟨v, ev, fv⟩ := fr.get hk
      obtain ⟨v', ev', rv⟩ := ra.get hak
      rw [ev] at ev'
      cases ev'
      exact ⟨v, fv.1, rv⟩
  · refine keep b o (S.frame b o q t n) t fun k hk => ?_
    obtain ⟨j, e, f, x, e1, hx, e2⟩ := ca k b hk
    cases hf : f.own with
    | true => rw [S.own j b f x e1 hx e2 hf] at q; cases q
    | false => exact n j (S.bor j b f x e1 hx e2 hf)
  · rcases get i f x e with ⟨e1, _⟩ | ⟨x0, k, e1, hx0, _⟩
    · exact S.own i a f x e1 hx e2 ho
    · exact S.own i a f x0 e1 hx0 e2 ho
  · rcases get i f x e with ⟨e1, _⟩ | ⟨x0, k, e1, hx0, _⟩
    · exact S.bor i a f x e1 hx e2 ho
    · exact S.bor i a f x0 e1 hx0 e2 ho
  · refine keep b o q t fun k hk => ?_
    obtain ⟨j, _, h⟩ := ca k b hk
    exact n j h
  · rw [putB_get nd, e]
    cases look rs as' i with
    | none => exact ⟨f, x, rfl⟩
    | some a =>
      by_cases hx : x.isC = true
      · exact ⟨f, a, by simp [hx]⟩
      · exact ⟨f, x, by simp [hx]⟩
/-- f(e, ..), a def -/
theorem tCallE {np : Nat} {F : Fn} {g : M (List R)} {Q : VK} (q : tE P w K Tb (evCall F g) E σ H Q) (hF : ∀ as r, F as = some r → as.length = np) : tA P w K Tb g E σ H fun vs H1 => FnSp P w K Tb np F vs H1 Q E := by
  obtain ⟨c, Γ, S, q⟩ := q
  refine ⟨c, Γ, S, (Aft_bnd.mp q).imp fun rs Γ1 eg q vs H1 T fr => ?_⟩
  cases ea : argsA Γ1 rs with
  | none => simp only [ea] at q; exact q.elim
  | some as =>
    simp only [ea] at q
    split at q
    · rename_i nd
      obtain ⟨ar, ca⟩ := args_of T.rel fr ea
      have hlen : as.length = np := by
        cases eF : F as with
        | none => simp only [eF] at q; exact q.elim
        | some r => exact hF as r eF
      refine ⟨T.rel.tabs, as, hlen, ar, fun i j a h1 h2 => ?_, ?_⟩
      · obtain ⟨k1, e1, q1⟩ := ca i a h1
        obtain ⟨k2, e2, q2⟩ := ca j a h2
        have := T.rel.apart k1 k2 a q1 q2
        subst this
        exact nodupB_at nd e1 e2
      · cases eF : F as with
        | none => simp only [eF] at q; exact q.elim
        | some r =>
          simp only [eF] at q
          cases r with
          | error x =>
            refine fun cls d H' keep tb xr => (show XPost P w K c x E from q) cls d H' (fun b o h0 t n => keep b o (T.rel.frame b o h0 t n) t fun k hk => ?_) tb xr
            obtain ⟨j, e, f, x, e1, hx, e2⟩ := ca k b hk
            cases hf : f.own with
            | true => rw [T.rel.own j b f x e1 hx e2 hf] at h0; cases h0
            | false => exact n j (T.rel.bor j b f x e1 hx e2 hf)
          | ok p =>
            obtain ⟨z, as'⟩ := p
            simp only at q
            split at q
            · rename_i sc
              refine fun v H' keep tb pe back ra n => ?_
              have T2 := Stp.called T.rel fr ea nd sc keep tb pe back ra
              have q : ∀ v H', Stp P w K c Γ σ H (putB Γ1 rs as') H' → RRep P w K c (putB Γ1 rs as') σ H H' v (.a z) → Q v H' := q
              refine q v H' (T.trans T2) ⟨n.1, fun hz => ?_⟩
              obtain ⟨p, e, hp⟩ := n.2 hz
              exact ⟨p, e, T.back p hp, fun i h => T.rel.cne hp (T2.shp i p h)⟩
            · exact q.elim
    · exact q.elim
/-- f(e, ..) -/
theorem pe_callE {k np : Nat} {f : Addr} {fd : FuncData} {ps : List Str} {x : Str} {e : Expr} {es : List Expr} {p pos : Pos} {F : Fn} {g : M (List R)} (FO : FnOk X.prog X.w X.K X.mg X.base (L2.CX X.prog X.w) k f fd ps (FnSp X.prog X.w X.K Tb np F)) (hr : Room k X.A) (hg : Gl X x) (hm : X.mg x = some (.ref f)) (hk : PySem.W.keepIn X.K (.ref f) = true)
    (hb : Binds X.K fd ps []) (hx : Passes (L2.CX X.prog X.w) X E) (ha : PA X (e :: es) (tA X.prog X.w X.K Tb g E)) (hF : ∀ as r, F as = some r → as.length = np) (hd : (x == ("__debug__" : Str)) = false) (hs : (e :: es).all nst = true) :
    PE X (.Call (.Name x p) (e :: es) [] pos) (tE X.prog X.w X.K Tb (evCall F g) E) := by
  have h2 := Bool.and_eq_true_iff.mp hs
  refine PE.weak (pe_call FO hr hg hm hk hb .nil hx ha hd (star_cons h2.1) (star_any h2.2)) fun σ H Q q => ?_
  have := tCallE q hF
  unfold tCall
  simpa only [List.append_nil] using this
theorem pe_callE0 {k : Nat} {f : Addr} {fd : FuncData} {ps : List Str} {x : Str} {p pos : Pos} {F : Fn} (FO : FnOk X.prog X.w X.K X.mg X.base (L2.CX X.prog X.w) k f fd ps (FnSp X.prog X.w X.K Tb 0 F)) (hr : Room k X.A) (hg : Gl X x) (hm : X.mg x = some (.ref f)) (hk : PySem.W.keepIn X.K (.ref f) = true)
    (hb : Binds X.K fd ps []) (hx : Passes (L2.CX X.prog X.w) X E) (hF : ∀ as r, F as = some r → as.length = 0) (hd : (x == ("__debug__" : Str)) = false) :
    PE X (.Call (.Name x p) [] [] pos) (tE X.prog X.w X.K Tb (evCall F evNil) E) := by
  refine PE.weak (pe_call0 FO hr hg hm hk hb .nil hx hd) fun σ H Q q => ?_
  obtain ⟨c, Γ, S, q⟩ := tCallE q hF
  exact q [] H (Stp.refl S) .nil

/-! ### a def by its body -/
def finA (Γ : Env) : List A → Nat → Option (List A)
  | [], _ => some []
  | a :: as, i => match (if a.isC then (match Γ[i]? with
      | some (.c f x) => if !f.own && x.isC then some x else none
      | _ => none) else some a), finA Γ as (i + 1) with
    | some b, some bs => some (b :: bs)
    | _, _ => none
def startE (n : Nat) (as : List A) : Env := as.map (fun a => Sl.c ⟨false⟩ a) ++ List.replicate (n - as.length) Sl.un
def evFn (np n : Nat) (b : M Fw) : Fn := fun as => if as.length = np ∧ np ≤ n then match b (startE n as) with
    | none => none
    | some (.error x) => some (.error x)
    | some (.ok (fl, Γ)) => match fl with
      | .nx => (finA Γ as 0).map fun bs => .ok (.d .none, bs)
      | .rt z => (finA Γ as 0).map fun bs => .ok (z, bs)
      | _ => none
  else none
theorem evFn_len {np n : Nat} {b : M Fw} {as : List A} {r : Except Exc (A × List A)} (h : evFn np n b as = some r) : as.length = np := by
  unfold evFn at h
  split at h
  · rename_i e; exact e.1
  · cases h
theorem startE_get {n : Nat} {as : List A} {i : Nat} {f : Fl} {x : A} (h : (startE n as)[i]? = some (.c f x)) : as[i]? = some x ∧ f = ⟨false⟩ := by
  unfold startE at h
  by_cases hi : i < as.length
  · rw [List.getElem?_append_left (by simpa using hi), List.getElem?_map] at h
    cases e : as[i]? with
    | none => rw [e] at h; cases h
    | some a => rw [e] at h; cases h; exact ⟨rfl, rfl⟩
  · rw [List.getElem?_append_right (by simpa using hi)] at h
    by_cases hk : i - (as.map fun a => Sl.c ⟨false⟩ a).length < n - as.length
    · rw [List.getElem?_replicate_of_lt hk] at h; cases h
    · rw [List.getElem?_eq_none (by simpa using hk)] at h; cases h
theorem startE_fn {n : Nat} {as : List A} {i : Nat} {m : Str} (h : (startE n as)[i]? = some (.fn m)) : False := by
  unfold startE at h
  rcases List.mem_append.mp (List.mem_of_getElem? h) with z | z
  · obtain ⟨_, _, e⟩ := List.mem_map.mp z; cases e
  · have := List.eq_of_mem_replicate z; cases this
theorem finA_rep {as : List A} : ∀ {vs : List V} {i : Nat} {bs : List A}, finA Γ as i = some bs → (∀ (j : Nat) (a : A), as[j]? = some a → a.isC = false → ∃ v, vs[j]? = some v ∧ ARep P w K H v a) →
    (∀ (j : Nat) (f : Fl) (x : A), Γ[i + j]? = some (.c f x) → f.own = false → x.isC = true → ∃ v, vs[j]? = some v ∧ ARep P w K H v x) → vs.length = as.length → AReps P w K H vs bs := by
  induction as with
  | nil =>
    intro vs i bs e _ _ hl
    cases e
    cases vs with
    | nil => exact .nil
    | cons => simp at hl
  | cons a as ih =>
    intro vs i bs e h1 h2 hl
    cases vs with
    | nil => simp at hl
    | cons v vs =>
      unfold finA at e
      split at e
      · rename_i b bs' e1 e2
        cases e
        refine .cons ?_ (ih e2 (fun j a' ea hc => by simpa using h1 (j + 1) a' (by simpa using ea) hc) (fun j f x ex ho hx => by simpa using h2 (j + 1) f x (by rw [← ex]; congr 1; omega) ho hx) (by simpa using hl))
        split at e1
        · split at e1
          · rename_i f x ex
            split at e1
            · rename_i hc
              cases e1
              rw [Bool.and_eq_true] at hc
              obtain ⟨v', ev, r⟩ := h2 0 f _ ex (by simpa using hc.1) hc.2
              simp at ev
              rw [ev]; exact r
            · cases e1
          · cases e1
        · rename_i hc
          cases e1
          obtain ⟨v', ev, r⟩ := h1 0 _ rfl (by simpa using hc)
          simp at ev
          rw [ev]; exact r
      · cases e
theorem start_get {N : List Str} {vs : List V} {i : Nat} {v : V} (h : vs[i]? = some v) : (start N vs)[i]? = some (some v) := by
  unfold L2.start
  rw [List.getElem?_append_left (by simpa using (List.getElem?_eq_some_iff.mp h).1), List.getElem?_map, h]
  rfl
theorem get_start {N : List Str} {vs : List V} {i : Nat} {v : V} (h : (start N vs)[i]? = some (some v)) : vs[i]? = some v := by
  unfold L2.start at h
  by_cases hi : i < vs.length
  · rw [List.getElem?_append_left (by simpa using hi), List.getElem?_map] at h
    cases e : vs[i]? with
    | none => rw [e] at h; cases h
    | some a => rw [e] at h; cases h; rfl
  · rw [List.getElem?_append_right (by simpa using hi)] at h
    by_cases hk : i - (vs.map some).length < N.length - vs.length
    · rw [List.getElem?_replicate_of_lt hk] at h; cases h
    · rw [List.getElem?_eq_none (by simpa using hk)] at h; cases h
/-- the body's reading at a call -/
theorem tS_fn {np : Nat} {N : List Str} {b : M Fw} {vs : List V} {Q : VK} (h : FnSp P w K Tb np (evFn np N.length b) vs H Q E) : tS P w K Tb b E { nx := fun _ H' => Q .non H', rt := Q } (start N vs) H := by
  obtain ⟨tb0, as, hl, ar, ap, q⟩ := h
  let c : Ctx Tb := ⟨H, fun i => match vs[i]?, as[i]? with
    | some (.ref a), some x => if x.isC then some a else none
    | _, _ => none⟩
  have cba : ∀ {i a}, c.ba i = some a ↔ cAt vs as i a := fun {i a} => by
    show (match vs[i]?, as[i]? with | some (.ref a), some x => if x.isC then some a else none | _, _ => none) = some a ↔ _
    constructor
    · intro h
      split at h
      · rename_i a' x e1 e2
        split at h
        · rename_i hx; cases h; exact ⟨e1, x, e2, hx⟩
        · cases h
      · cases h
    · intro ⟨e1, x, e2, hx⟩
      simp only [e1, e2, hx, if_true]
  have cat : ∀ {i a}, CAt (startE N.length as) (start N vs) i a → cAt vs as i a := fun {i a} ⟨f, x, e, hx, e2⟩ => ⟨get_start e2, x, (startE_get e).1, hx⟩
  unfold evFn at q
  split at q
  · rename_i hn
    have S : SRel P w K c (startE N.length as) (start N vs) H := by
      refine ⟨?_, fun i f x e => ?_, fun i j a h1 h2 => ap i j a (cat h1) (cat h2), fun b o h _ _ => h, tb0, fun i b h z => ?_, fun i a f x e hx e2 ho => ?_, fun i a f x e hx e2 ho => cba.mpr (cat ⟨f, x, e, hx, e2⟩), fun i n e => (startE_fn e).elim⟩
      · have := ar.len
        simp only [startE, L2.start, List.length_append, List.length_map, List.length_replicate, this]
      · obtain ⟨v, ev, r⟩ := ar.get (startE_get e).1
        exact ⟨v, start_get ev, r⟩
      · obtain ⟨e1, x, e2, hx⟩ := cba.mp h
        obtain ⟨v, ev, r⟩ := ar.get e2
        rw [e1] at ev
        cases ev
        obtain ⟨p, u, ep, hu⟩ := r.at_ hx
        cases ep
        rw [z] at hu
        cases hu
      · rw [(startE_get e).2] at ho; cases ho
    refine ⟨c, _, S, ?_⟩
    cases eb : b (startE N.length as) with
    | none => simp only [eb] at q; exact q.elim
    | some r =>
      simp only [eb] at q
      cases r with
      | error x => exact fun cls d H' keep tb xr => (show ∀ cls d H', _ from q) cls d H' (fun b o h t n => keep b o h t fun i z => n i (cba.mp z)) tb xr
      | ok p =>
        obtain ⟨fl, Γ⟩ := p
        have fin : ∀ {z : A} {v : V} {σ' : L2.St} {H' : Hp}, Aft2 ((finA Γ as 0).map fun bs => Except.ok (z, bs)) (fun x => ∀ cls d H', (∀ b o, H b = some o → nT Tb b → (∀ i, ¬ cAt vs as i b) → H' b = some o) → LamX.Tabs Tb H' → XRep P w K x cls d H' → E cls d H') (fun z as' =>
            ∀ v H', (∀ b o, H b = some o → nT Tb b → (∀ i, ¬ cAt vs as i b) → H' b = some o) → LamX.Tabs Tb H' → Pers H H' → (∀ p, H' p = none → H p = none) → AReps P w K H' vs as' → ANew P w K H H' v z → Q v H') →
            SRel P w K c Γ σ' H' → Pers H H' → RtRep P w K c H' v z → Q v H' := fun {z v σ' H'} q S' pe rt => by
          cases ef : finA Γ as 0 with
          | none => rw [ef] at q; exact q.elim
          | some bs =>
            rw [ef] at q
            have keep : ∀ b o, H b = some o → nT Tb b → (∀ i, ¬ cAt vs as i b) → H' b = some o := fun b o h t n => S'.frame b o h t fun i z => n i (cba.mp z)
            refine (show ∀ v H', _ from q) v H' keep S'.tabs pe (fun p hp => ?_) (finA_rep ef (fun j a ea hc => ?_) (fun j f x ex ho hx => ?_) ar.len) ⟨rt.1, rt.2⟩
            · cases e : H p with
              | none => rfl
              | some o =>
                by_cases hc : ∃ i, cAt vs as i p
                · obtain ⟨i, hc⟩ := hc
                  exact absurd hp (S'.there i p (cba.mpr hc))
                · by_cases t : nT Tb p
                  · rw [keep p o e t fun i z => hc ⟨i, z⟩] at hp
                    cases hp
                  · exact absurd (nT_fresh S'.tabs hp) t
            · obtain ⟨v, ev, r⟩ := ar.get ea
              cases a with
              | d x => exact ⟨v, ev, PR.mono pe r⟩
              | _ => cases hc
            · rw [Nat.zero_add] at ex
              obtain ⟨v, ev, r⟩ := S'.rep j f x ex
              obtain ⟨a, u, rfl, hu⟩ := r.at_ hx
              have := cba.mp (S'.bor j a f x ex hx ev ho)
              exact ⟨_, this.1, r⟩
        cases fl with
        | nx => exact fun σ' H' S' pe => fin q S' pe ⟨.non, fun z => nomatch z⟩
        | rt z => exact fun v σ' H' S' pe rt => fin q S' pe rt
        | bk => exact q.elim
        | ct => exact q.elim
  · exact q.elim
/-- THE RULE for a def -/
theorem fn_okE {Pg : Program} {w : World} {K : PySem.W.Frag} {mg : Str → Option Value} {base : Heap} {x qual : Str} {st : Stmt} {f : Addr} {fd : FuncData} {N ps : List Str} {k : Nat} {b : M Fw} {Tb : List (Addr × Str)} (F : Fun K x qual st f fd) (S : FnScope N ps (defScope st))
    (hbody : ∀ (cdv : Value) (A : Around) (outer : List PySem.Env) (s : Shared) (H : Hp) (E : XK), Room k (A.deeper (PyProof.Rows.envOfC qual (defScope st) s.heap.objs.size f cdv)) →
      PSs (cxOf (L2.CX Pg w) Pg w K mg base N qual (defScope st) f cdv A outer s H E) (defBody st) (tS Pg w K Tb b E)) :
    FnOk Pg w K mg base (L2.CX Pg w) (k + 1) f fd ps (FnSp Pg w K Tb ps.length (evFn ps.length N.length b)) := by
  refine F.okX S (fun vs H Q E ⟨_, as, hl, ar, _⟩ => by rw [ar.len, hl]) fun cdv A outer s H vs Q E hr h => ⟨_, hbody cdv A outer s H E hr, tS_fn h⟩
/-- a def that makes no lambda keeps its promise among any tables -/
theorem fnSp_nil {np : Nat} {F : Fn} {vs : List V} {Q : VK} (h : FnSp P w K Tb np F vs H Q E) : FnSp P w K [] np F vs H Q E := by
  obtain ⟨tb, as, hl, ar, ap, q⟩ := h
  have tabs : ∀ {H' : Hp}, (∀ b o, H b = some o → nT [] b → (∀ i, ¬ cAt vs as i b) → H' b = some o) → LamX.Tabs Tb H' := fun {H'} keep p hp => by
    obtain ⟨ps, e1, e2, e3⟩ := tb p hp
    have nc : ∀ b u, H b = some u → (∀ {w' P'}, ¬ Cont P' w' b u) → ∀ i, ¬ cAt vs as i b := fun b u e n i ⟨ev, x, ex, hx⟩ => by
      obtain ⟨v, ev', r⟩ := ar.get ex
      rw [ev] at ev'
      cases ev'
      obtain ⟨p, u', ep, hu, hc⟩ := r.cont hx
      cases ep
      rw [e] at hu
      cases hu
      exact n hc
    refine ⟨ps, keep _ _ e1 (fun _ z => (nomatch z)) (nc _ _ e1 fun z => z.ntbl rfl), e2, fun pos cv k => ?_⟩
    obtain ⟨c, e4, e5⟩ := e3 pos cv k
    exact ⟨c, e4, keep _ _ e5 (fun _ z => (nomatch z)) (nc _ _ e5 fun z => z.ncode rfl)⟩
  refine ⟨fun _ z => (nomatch z), as, hl, ar, ap, ?_⟩
  cases e : F as with
  | none => rw [e] at q; exact q
  | some r =>
    rw [e] at q
    cases r with
    | error x => exact fun cls d H' keep _ xr => (show ∀ cls d H', _ from q) cls d H' (fun b o h _ n => keep b o h (fun _ z => (nomatch z)) n) (tabs keep) xr
    | ok p => exact fun v H' keep _ pe back ra n => (show ∀ v H', _ from q) v H' (fun b o h _ n => keep b o h (fun _ z => (nomatch z)) n) (tabs keep) pe back ra n
theorem fnOk_any {Pg : Program} {w : World} {K : PySem.W.Frag} {mg : Str → Option Value} {base : Heap} {k np : Nat} {f : Addr} {fd : FuncData} {ps : List Str} {F : Fn} (h : FnOk Pg w K mg base (L2.CX Pg w) k f fd ps (FnSp Pg w K [] np F)) (Tb : List (Addr × Str)) :
    FnOk Pg w K mg base (L2.CX Pg w) k f fd ps (FnSp Pg w K Tb np F) := h.imp fun vs H Q E q => fnSp_nil q
end
end Iv
set_option Elab.async false
set_option linter.all false
set_option maxRecDepth 100000
set_option maxHeartbeats 1000000
/-! Iv, dicts by content: keys are ints, texts | tuples (of ints, texts, None, tuples). -/
namespace Iv
open PySem L2

/-! ### data: keys -/
mutual
def kq : D → D → Bool
  | .none, .none => true
  | .bool a, .bool b => a == b
  | .bool a, .int j => decide ((if a = true then 1 else 0) = j)
  | .int i, .bool b => decide (i = (if b = true then 1 else 0))
  | .int i, .int j => decide (i = j)
  | .str a, .str b => decide (a = b)
  | .tuple a, .tuple b => kqs a b
  | _, _ => false
def kqs : List D → List D → Bool
  | [], [] => true
  | a :: as, b :: bs => kq a b && kqs as bs
  | _, _ => false
end
theorem keyNs_len : ∀ {xs : List D} {k : List NestedKey}, keyNs xs = some k → k.length = xs.length
  | [], k, h => by simp only [keyNs, Option.some.injEq] at h; subst h; rfl
  | x :: xs, k, h => by
    unfold keyNs at h
    split at h
    · rename_i e1 e2
      cases h
      simp [keyNs_len e2]
    · cases h
mutual
theorem kq_eq : ∀ {a b : D} {k l : NestedKey}, keyN a = some k → keyN b = some l → kq a b = decide (k = l)
  | .none, b, k, l, h1, h2 => by
    cases b <;> simp only [keyN, Option.some.injEq, Option.map_eq_some_iff, reduceCtorEq] at h1 h2
    case tuple => obtain ⟨_, _, rfl⟩ := h2; subst h1; simp [kq]
    all_goals subst h1 h2; simp [kq]
  | .bool x, b, k, l, h1, h2 => by
    cases b <;> simp only [keyN, Option.some.injEq, Option.map_eq_some_iff, reduceCtorEq] at h1 h2
    case tuple => obtain ⟨_, _, rfl⟩ := h2; subst h1; simp [kq]
    case bool y => subst h1 h2; cases x <;> cases y <;> simp [kq]
    all_goals subst h1 h2; simp [kq]
  | .int x, b, k, l, h1, h2 => by
    cases b <;> simp only [keyN, Option.some.injEq, Option.map_eq_some_iff, reduceCtorEq] at h1 h2
    case tuple => obtain ⟨_, _, rfl⟩ := h2; subst h1; simp [kq]
    all_goals subst h1 h2; simp [kq]
  | .str x, b, k, l, h1, h2 => by
    cases b <;> simp only [keyN, Option.some.injEq, Option.map_eq_some_iff, reduceCtorEq] at h1 h2
    case tuple => obtain ⟨_, _, rfl⟩ := h2; subst h1; simp [kq]
    all_goals subst h1 h2; simp [kq]
  | .tuple xs, b, k, l, h1, h2 => by
    cases b <;> simp only [keyN, Option.some.injEq, Option.map_eq_some_iff, reduceCtorEq] at h1 h2
    case tuple ys =>
      obtain ⟨k1, e1, rfl⟩ := h1
      obtain ⟨k2, e2, rfl⟩ := h2
      have := kqs_eq e1 e2
      simpa [kq] using this
    all_goals obtain ⟨_, _, rfl⟩ := h1; subst h2; simp [kq]
  | .list _, _, _, _, h1, _ => by simp [keyN] at h1
  | .dict _, _, _, _, h1, _ => by simp [keyN] at h1
theorem kqs_eq : ∀ {a b : List D} {k l : List NestedKey}, keyNs a = some k → keyNs b = some l → kqs a b = decide (k = l)
  | [], [], k, l, h1, h2 => by simp only [keyNs, Option.some.injEq] at h1 h2; subst h1 h2; simp [kqs]
  | [], b :: bs, k, l, h1, h2 => by
    have := keyNs_len h2
    simp only [keyNs, Option.some.injEq] at h1
    subst h1
    cases l with
    | nil => simp at this
    | cons => simp [kqs]
  | a :: as, [], k, l, h1, h2 => by
    have := keyNs_len h1
    simp only [keyNs, Option.some.injEq] at h2
    subst h2
    cases k with
    | nil => simp at this
    | cons => simp [kqs]
  | a :: as, b :: bs, k, l, h1, h2 => by
    unfold keyNs at h1 h2
    split at h1
    · rename_i e1 e2
      split at h2
      · rename_i e3 e4
        cases h1
        cases h2
        unfold kqs
        rw [kq_eq e1 e3, kqs_eq e2 e4]
        simp
      · cases h2
    · cases h1
end
def isFlat : D → Bool
  | .int _ => true
  | .str _ => true
  | _ => false
def isTuple : D → Bool
  | .tuple _ => true
  | _ => false
theorem keyT_N {x : D} {k : NestedKey} (h : keyT x = some k) : keyN x = some k ∧ k.depth ≤ 8 ∧ isTuple x = true := by
  unfold keyT at h
  split at h
  · split at h
    · rename_i e
      split at h
      · cases h; rename_i hd; exact ⟨e, hd, rfl⟩
      · cases h
    · cases h
  · cases h
def valD (kvs : List (D × D)) (x : D) : Option D := (kvs.find? fun p => kq p.1 x).map (·.2)
def putD (kvs : List (D × D)) (x v : D) : List (D × D) := if kvs.any (fun p => kq p.1 x) = true then kvs.map (fun p => if kq p.1 x = true then (p.1, v) else p) else kvs ++ [(x, v)]
def headK (f : D → Bool) (kvs : List (D × D)) : Bool := match kvs with
  | [] => true
  | p :: _ => f p.1
/-- x fits as a key of the dict kvs -/
def fitK (kvs : List (D × D)) (x : D) : Bool := (isFlat x && headK isFlat kvs) || ((keyT x).isSome && headK isTuple kvs)

section
variable {P : Program} {w : World} {K : PySem.W.Frag} {Tb : List (Addr × Str)} {c : Ctx Tb} {Γ Γ' Γ1 Γ2 : Env} {σ σ' : L2.St} {H H' H1 H2 : Hp} {E : XK} {X : Cx} {pins : List (Addr × Obj)} {s : Shared}
/-- a dict's content, at an object u -/
inductive DV (P : Program) (w : World) (K : PySem.W.Frag) (H : Hp) (a : Addr) : HO → List (D × D) → Prop
  | k {ks : List (Key × V)} {ds : List (D × D)} : PRk P w K H ks ds → DV P w K H a (.dK ks) ds
  | t {xs : List (NestedKey × Addr × Value)} {ds : List (D × D)} : PRt P w K H xs ds → DV P w K H a (.ext (TD P w a xs)) ds
theorem RRd.dct {v : V} {kvs : List (D × D)} (h : RRd P w K H v (.dict kvs)) : ∃ a u, v = .ref a ∧ Rd H a u ∧ DV P w K H a u kvs := by
  obtain ⟨x, r, e⟩ := h
  cases x with
  | d x =>
    cases e
    cases r with
    | dk h r => exact ⟨_, _, rfl, .inr ⟨_, h⟩, .k r⟩
    | dt h r => exact ⟨_, _, rfl, .inr ⟨_, h⟩, .t r⟩
  | l xs => cases e
  | m kvs =>
    cases e
    obtain ⟨a, u, rfl, h, r⟩ := r
    cases r with
    | k r => exact ⟨_, _, rfl, .inl h, .k r⟩
    | t n r => exact ⟨_, _, rfl, .inl h, .t r⟩
mutual
theorem PR.keyN (I : Inv X pins σ H s) : ∀ {v : V} {d : D} {k : NestedKey} {u : Value}, PR X.prog X.w X.K H v d → RelV v u → Iv.keyN d = some k → NestedIs s.heap k u
  | _, _, k, u, .non, r, e => by simp only [Iv.keyN, Option.some.injEq] at e; subst e; cases r; exact .none
  | _, _, k, u, .bl b, r, e => by
    simp only [Iv.keyN, Option.some.injEq] at e
    subst e
    have : u = .bool b := r
    subst this
    exact .bool rfl
  | _, _, k, u, .int i, r, e => by
    simp only [Iv.keyN, Option.some.injEq] at e
    subst e
    obtain ⟨t, rfl⟩ : ∃ t, u = .int i t := r
    exact .int _ _
  | _, _, k, u, .str x, r, e => by
    simp only [Iv.keyN, Option.some.injEq] at e
    subst e
    obtain ⟨t, rfl⟩ : ∃ t, u = .str x t := r
    exact .text _ _
  | _, _, k, u, .tup h q, r, e => by
    simp only [Iv.keyN, Option.map_eq_some_iff] at e
    obtain ⟨ks, e, rfl⟩ := e
    obtain ⟨its, rv, ht, _⟩ := I.tuple h
    obtain ⟨o, h1, h2, n, h3⟩ := ht
    have : u = .ref _ := r
    subst this
    exact .tup h1 h2 h3 (PRs.keyN I q rv e)
  | _, _, k, u, .lst _ _, r, e => by simp [Iv.keyN] at e
  | _, _, k, u, .dk _ _, r, e => by simp [Iv.keyN] at e
  | _, _, k, u, .dt _ _, r, e => by simp [Iv.keyN] at e
theorem PRs.keyN (I : Inv X pins σ H s) : ∀ {v : List V} {d : List D} {k : List NestedKey} {u : List Value}, PRs X.prog X.w X.K H v d → Vals v u → Iv.keyNs d = some k → NestedAll s.heap k u
  | _, _, k, u, .nil, r, e => by simp only [Iv.keyNs, Option.some.injEq] at e; subst e; cases r; exact .nil
  | _, _, k, u, .cons h t, r, e => by
    unfold Iv.keyNs at e
    split at e
    · rename_i e1 e2
      cases e
      cases r with
      | cons r1 r2 => exact .cons (PR.keyN I h r1 e1) (PRs.keyN I t r2 e2)
    · cases e
end
theorem PR.keyT (I : Inv X pins σ H s) {v : V} {d : D} {k : NestedKey} (h : PR X.prog X.w X.K H v d) (e : Iv.keyT d = some k) : ∃ b, v = .ref b ∧ (nestedKind X.prog X.w).is s.heap k b := by
  obtain ⟨e1, e2, e3⟩ := keyT_N e
  cases d with
  | tuple xs =>
    obtain ⟨a, vs, rfl, h1, h2⟩ := h.inv_tup
    exact ⟨a, rfl, PR.keyN I (.tup h1 h2) rfl e1, e2⟩
  | _ => cases e3
theorem PRt.is (I : Inv X pins σ H s) : ∀ {xs : List (NestedKey × Addr × Value)} {ds : List (D × D)}, PRt X.prog X.w X.K H xs ds → ∀ x ∈ xs, (nestedKind X.prog X.w).is s.heap x.1 x.2.1
  | _, _, .nil, x, hx => nomatch hx
  | _, _, .cons h e q h2 r, x, hx => by
    rcases List.mem_cons.mp hx with z | z
    · subst z
      obtain ⟨b, e1, k⟩ := h.keyT I e
      cases e1
      exact k
    · exact PRt.is I r x z
theorem PRt.len {xs : List (NestedKey × Addr × Value)} {ds : List (D × D)} (h : PRt P w K H xs ds) : xs.length = ds.length := by
  induction xs generalizing ds with
  | nil => cases h; rfl
  | cons x xs ih => cases h with | cons _ _ _ _ r => simp [ih r]
theorem PRk.len {xs : List (Key × V)} {ds : List (D × D)} (h : PRk P w K H xs ds) : xs.length = ds.length := by
  induction xs generalizing ds with
  | nil => cases h; rfl
  | cons x xs ih => cases h with | cons _ r => simp [ih r]
/-- the object of a dict with tuple keys, for the rules of the kit -/
theorem dv_t (I : Inv X pins σ H s) {a : Addr} {u : HO} {kvs : List (D × D)} (h : Rd H a u) (dv : DV X.prog X.w X.K H a u kvs) (hd : headK isTuple kvs = true) :
    (a == sysModules) = false ∧ ∃ xs, PRt X.prog X.w X.K H xs kvs ∧ xs.length ≤ sizeLine ∧ s.heap.DictOfH (nestedKind X.prog X.w) a xs := by
  cases dv with
  | k r =>
    cases r with
    | nil =>
      obtain ⟨z, hm, vs, rel, o, es, ep, h1, h2, h3, h4, h5, h6⟩ := dk_rd I.hok h
      cases rel
      refine ⟨hm, [], .nil, Nat.zero_le _, o, es, ep, h1, h2, h3, ?_, fun _ hx => (nomatch hx), List.nodup_nil⟩
      have := h5.length
      simp only [List.length_nil, List.length_eq_zero_iff] at this
      rw [this]
      rfl
    | @cons k _ _ _ _ hv hr => cases k <;> cases hd
  | @t xs _ r =>
    have ok := (show ObjOk _ _ H s.heap a (.ext (TD X.prog X.w a xs)) from rd_of I.hok h).1
    obtain ⟨hm, hl, nd, o, es, ep, h1, h2, h3, h4⟩ := ok
    exact ⟨hm, xs, r, hl, o, es, ep, h1, h2, h3, h4, r.is I, nd⟩
/-- .. with keys that are ints, texts -/
theorem dv_k (I : Inv X pins σ H s) {a : Addr} {u : HO} {kvs : List (D × D)} (h : Rd H a u) (dv : DV X.prog X.w X.K H a u kvs) (hd : headK isFlat kvs = true) :
    (a == sysModules) = false ∧ ∃ ks vs, PRk X.prog X.w X.K H ks kvs ∧ KV ks vs ∧ ks.length ≤ sizeLine ∧ s.heap.DictOf (mixKind X.prog X.w) a vs := by
  cases dv with
  | @k ks _ r =>
    obtain ⟨z, hm, vs, rel, dd⟩ := dk_rd I.hok h
    exact ⟨hm, ks, vs, r, rel, z, dd⟩
  | @t xs _ r =>
    cases r with
    | nil =>
      obtain ⟨hm, hl, nd, o, es, ep, h1, h2, h3, h4⟩ := (show ObjOk _ _ H s.heap a (.ext (TD X.prog X.w a [])) from rd_of I.hok h).1
      have he : es.toList = [] := h4
      refine ⟨hm, [], [], .nil, .nil, Nat.zero_le _, o, es, ep, h1, h2, h3, ?_, ?_, List.nodup_nil⟩
      · have : es = #[] := by rw [← Array.toList_inj, he]
        subst this
        exact fun e he => by simp at he
      · rw [he]; exact .nil
    | @cons k0 q0 u0 v0 x0 d0 xs0 ds0 h e q h2 r =>
      have := (keyT_N e).2.2
      simp only [headK] at hd
      cases x0 <;> simp [isFlat, isTuple] at hd this

/-! ### what stands at a key -/
theorem kq_t {x y : D} {k l : NestedKey} (h1 : keyT x = some k) (h2 : keyT y = some l) : kq x y = decide (k = l) := kq_eq (keyT_N h1).1 (keyT_N h2).1
theorem keyD_N (k : Key) : Iv.keyN (keyD k) = some (match k with | .inl i => .num i | .inr x => .text x) := by cases k <;> rfl
theorem kq_k (k l : Key) : kq (keyD k) (keyD l) = decide (k = l) := by
  rw [kq_eq (keyD_N k) (keyD_N l)]
  cases k <;> cases l <;> simp
theorem val_t {x : D} {k : NestedKey} (hk : keyT x = some k) : ∀ {xs : List (NestedKey × Addr × Value)} {ds : List (D × D)}, PRt P w K H xs ds → (atKey xs k).isSome = (valD ds x).isSome ∧ ∀ d, valD ds x = some d → ∃ p v, atKey xs k = some p ∧ RelV v p.2 ∧ PR P w K H v d
  | _, _, .nil => ⟨rfl, fun d h => by simp [valD] at h⟩
  | _, _, .cons (k := k') h e q h2 r => by
    have e1 := kq_t e hk
    obtain ⟨i1, i2⟩ := val_t hk r
    unfold atKey valD at *
    simp only [List.find?_cons]
    by_cases z : k' = k
    · subst z
      rw [e1]
      simp only [decide_true, Option.map_some, Option.isSome_some, Option.some.injEq, true_and]
      rintro d rfl
      exact ⟨_, _, rfl, q, h2⟩
    · rw [e1, decide_eq_false z]
      exact ⟨i1, i2⟩
theorem val_k (k : Key) : ∀ {xs : List (Key × V)} {ds : List (D × D)}, PRk P w K H xs ds → (valV xs k).isSome = (valD ds (keyD k)).isSome ∧ ∀ d, valD ds (keyD k) = some d → ∃ v, valV xs k = some v ∧ PR P w K H v d
  | _, _, .nil => ⟨rfl, fun d h => by simp [valD] at h⟩
  | _, _, .cons (k := k') h r => by
    have e1 := kq_k k' k
    obtain ⟨i1, i2⟩ := val_k k r
    unfold valV valD at *
    simp only [List.find?_cons]
    by_cases z : k' = k
    · subst z
      rw [e1]
      simp only [decide_true, Option.map_some, Option.isSome_some, Option.some.injEq, true_and]
      rintro d rfl
      exact ⟨_, rfl, h⟩
    · rw [e1, decide_eq_false z]
      exact ⟨i1, i2⟩
theorem any_t {x : D} {k : NestedKey} (hk : keyT x = some k) {xs : List (NestedKey × Addr × Value)} {ds : List (D × D)} (r : PRt P w K H xs ds) : (ds.any fun p => kq p.1 x) = (atKey xs k).isSome := by
  rw [(val_t hk r).1]
  unfold valD
  rw [Option.isSome_map]
  exact List.isSome_find?.symm
theorem any_k (k : Key) {xs : List (Key × V)} {ds : List (D × D)} (r : PRk P w K H xs ds) : (ds.any fun p => kq p.1 (keyD k)) = xs.any fun p => decide (p.1 = k) := by
  rw [valV_any, (val_k k r).1]
  unfold valD
  rw [Option.isSome_map]
  exact List.isSome_find?.symm
theorem PRt.append {xs ys : List (NestedKey × Addr × Value)} {ds es : List (D × D)} (h : PRt P w K H xs ds) (h2 : PRt P w K H ys es) : PRt P w K H (xs ++ ys) (ds ++ es) := by
  induction xs generalizing ds with
  | nil => cases h; exact h2
  | cons x xs ih => cases h with | cons a b c d r => exact .cons a b c d (ih r)
theorem PRk.append {xs ys : List (Key × V)} {ds es : List (D × D)} (h : PRk P w K H xs ds) (h2 : PRk P w K H ys es) : PRk P w K H (xs ++ ys) (ds ++ es) := by
  induction xs generalizing ds with
  | nil => cases h; exact h2
  | cons x xs ih => cases h with | cons a r => exact .cons a (ih r)
theorem map_t {x d : D} {k : NestedKey} {v : V} {u : Value} (hk : keyT x = some k) (ru : RelV v u) (hv : PR P w K H v d) : ∀ {xs : List (NestedKey × Addr × Value)} {ds : List (D × D)}, PRt P w K H xs ds →
    PRt P w K H (xs.map (putAt k u)) (ds.map fun p => if kq p.1 x = true then (p.1, d) else p)
  | _, _, .nil => .nil
  | _, _, .cons (k := k') h e q h2 r => by
    rw [List.map_cons, List.map_cons]
    unfold putAt
    simp only [kq_t e hk, decide_eq_true_eq]
    by_cases z : k' = k
    · rw [if_pos z, if_pos z]
      exact .cons h e ru hv (map_t hk ru hv r)
    · rw [if_neg z, if_neg z]
      exact .cons h e q h2 (map_t hk ru hv r)
theorem map_k {d : D} {v : V} (k : Key) (hv : PR P w K H v d) : ∀ {xs : List (Key × V)} {ds : List (D × D)}, PRk P w K H xs ds →
    PRk P w K H (xs.map fun kv => if kv.1 = k then (kv.1, v) else kv) (ds.map fun p => if kq p.1 (keyD k) = true then (p.1, d) else p)
  | _, _, .nil => .nil
  | _, _, .cons (k := k') h r => by
    rw [List.map_cons, List.map_cons]
    simp only [kq_k, decide_eq_true_eq]
    by_cases z : k' = k
    · rw [if_pos z, if_pos z]
      exact .cons hv (map_k k hv r)
    · rw [if_neg z, if_neg z]
      exact .cons h (map_k k hv r)
theorem put_t {x d : D} {k : NestedKey} {b : Addr} {v : V} {u : Value} (hk : keyT x = some k) (hb : PR P w K H (.ref b) x) (ru : RelV v u) (hv : PR P w K H v d) {xs : List (NestedKey × Addr × Value)} {ds : List (D × D)} (r : PRt P w K H xs ds) : PRt P w K H (storedH xs k b u) (putD ds x d) := by
  unfold storedH putD
  rw [any_t hk r]
  split
  · exact map_t hk ru hv r
  · exact r.append (.cons hb hk ru hv .nil)
theorem put_k {d : D} {v : V} (k : Key) (hv : PR P w K H v d) {xs : List (Key × V)} {ds : List (D × D)} (r : PRk P w K H xs ds) : PRk P w K H (putK xs k v) (putD ds (keyD k) d) := by
  unfold putK putD
  rw [any_k k r]
  split
  · exact map_k k hv r
  · exact r.append (.cons hv .nil)
theorem flat_key {x : D} {y : V} (h : RRd P w K H y x) (f : isFlat x = true) : ∃ k, y = kV k ∧ x = keyD k := by
  cases x with
  | int i => exact ⟨.inl i, h.int, rfl⟩
  | str i => exact ⟨.inr i, h.str, rfl⟩
  | _ => cases f
theorem tup_pr {x : D} {y : V} {k : NestedKey} (h : RRd P w K H y x) (f : keyT x = some k) : PR P w K H y x := by
  have := (keyT_N f).2.2
  cases x with
  | tuple xs => exact h.pr (fun _ z => nomatch z) (fun _ z => nomatch z)
  | _ => cases this

/-! ### x in d, d[x] -/
def opInD : List D → Option A
  | [x, .dict kvs] => if fitK kvs x then some (.d (.bool (valD kvs x).isSome)) else none
  | _ => none
def opNotInD : List D → Option A
  | [x, .dict kvs] => if fitK kvs x then some (.d (.bool (!(valD kvs x).isSome))) else none
  | _ => none
def rDIn (P : Program) (w : World) (K : PySem.W.Frag) (f : Bool → Bool) : R2 := fun x y H Q => ∃ dx kvs, RRd P w K H x dx ∧ RRd P w K H y (.dict kvs) ∧ fitK kvs dx = true ∧ Q (.bl (f (valD kvs dx).isSome)) H
def rDGet (P : Program) (w : World) (K : PySem.W.Frag) : R2 := fun x y H Q => ∃ dx kvs d, RRd P w K H y dx ∧ RRd P w K H x (.dict kvs) ∧ fitK kvs dx = true ∧ valD kvs dx = some d ∧ ∀ v, PR P w K H v d → Q v H
theorem in1_units {A : Around} {n : Nat} (h : A.units + n + 1 < cLine) : A.in1.units + n < cLine := by
  have : A.in1.units = A.units + 1 := rfl
  omega
theorem op_dIn (hu : X.A.units + 64 < cLine) : OpR X (compareOp .In) (rDIn X.prog X.w X.K id) := by
  intro pins s σ H x y u u' Q I rx ry ⟨dx, kvs, hx, hy, hf, q⟩
  obtain ⟨a, uo, rfl, hr, dv⟩ := hy.dct
  have : u' = .ref a := ry
  subst this
  unfold fitK at hf
  rw [Bool.or_eq_true, Bool.and_eq_true, Bool.and_eq_true] at hf
  rcases hf with ⟨f1, f2⟩ | ⟨f1, f2⟩
  · obtain ⟨k, rfl, rfl⟩ := flat_key hx f1
    obtain ⟨hd, ks, vs, r, rel, _, dd⟩ := dv_k I hr dv f2
    refine wpAny_in_of (kV_is rx) hd dd.mapOf ?_
    rw [← (rel.val k).isSome_eq, (val_k k r).1]
    exact ⟨_, H, I.tok _, (show RelV (.bl _) _ from rfl), q⟩
  · obtain ⟨k, hk⟩ := Option.isSome_iff_exists.mp f1
    obtain ⟨b, rfl, ib⟩ := (tup_pr hx hk).keyT I hk
    have : u = .ref b := rx
    subst this
    obtain ⟨hd, xs, r, _, dd⟩ := dv_t I hr dv f2
    refine wpAny_in_heap (knd := nestedKind X.prog X.w) (in1_units (by omega)) ib hd dd ?_
    rw [(val_t hk r).1]
    exact ⟨_, H, I.tok _, (show RelV (.bl _) _ from rfl), q⟩
theorem op_dNotIn (hu : X.A.units + 64 < cLine) : OpR X (compareOp .NotIn) (rDIn X.prog X.w X.K (!·)) := by
  intro pins s σ H x y u u' Q I rx ry ⟨dx, kvs, hx, hy, hf, q⟩
  obtain ⟨a, uo, rfl, hr, dv⟩ := hy.dct
  have : u' = .ref a := ry
  subst this
  unfold fitK at hf
  rw [Bool.or_eq_true, Bool.and_eq_true, Bool.and_eq_true] at hf
  rcases hf with ⟨f1, f2⟩ | ⟨f1, f2⟩
  · obtain ⟨k, rfl, rfl⟩ := flat_key hx f1
    obtain ⟨hd, ks, vs, r, rel, _, dd⟩ := dv_k I hr dv f2
    refine wpAny_notIn_of (kV_is rx) hd dd.mapOf ?_
    rw [← (rel.val k).isSome_eq, (val_k k r).1]
    exact ⟨_, H, I.tok _, (show RelV (.bl _) _ from rfl), q⟩
  · obtain ⟨k, hk⟩ := Option.isSome_iff_exists.mp f1
    obtain ⟨b, rfl, ib⟩ := (tup_pr hx hk).keyT I hk
    have : u = .ref b := rx
    subst this
    obtain ⟨hd, xs, r, _, dd⟩ := dv_t I hr dv f2
    show wpAny _ _ (do return Value.bool (!(← contains (.ref a) (.ref b)))) _ _ s
    refine wpAny_bind (wpAny_contains_heap (knd := nestedKind X.prog X.w) (in1_units (by omega)) ib hd dd (wpAny_pure ?_))
    rw [(val_t hk r).1]
    exact ⟨_, H, I.tok _, (show RelV (.bl _) _ from rfl), q⟩
theorem ops_dIn : OpS P w K (fun vs H Q => ∃ x y, vs = [x, y] ∧ rDIn P w K id x y H Q) opInD := by
  intro H vs ds z Q r e k
  unfold opInD at e
  split at e
  · obtain ⟨x, y, rfl, hx, hy⟩ := r.two
    split at e
    · rename_i hf
      cases e
      exact ⟨x, y, rfl, _, _, hx, hy, hf, k _ _ (Same.refl H) (.of (.bl _))⟩
    · cases e
  · cases e
theorem ops_dNotIn : OpS P w K (fun vs H Q => ∃ x y, vs = [x, y] ∧ rDIn P w K (!·) x y H Q) opNotInD := by
  intro H vs ds z Q r e k
  unfold opNotInD at e
  split at e
  · obtain ⟨x, y, rfl, hx, hy⟩ := r.two
    split at e
    · rename_i hf
      cases e
      exact ⟨x, y, rfl, _, _, hx, hy, hf, k _ _ (Same.refl H) (.of (.bl _))⟩
    · cases e
  · cases e

theorem keyD_pr {k : Key} : PR P w K H (kV k) (keyD k) := by
  cases k with
  | inl i => exact .int i
  | inr x => exact .str x
theorem in_dct {x : V} {kvs : List (D × D)} {d : D} (I : Inv X pins σ H s) (h : RRd X.prog X.w X.K H x (.dict kvs)) : ∃ a, x = .ref a ∧ s.TypeIs (.ref a) "dict" := by
  obtain ⟨a, uo, rfl, hr, dv⟩ := h.dct
  refine ⟨a, rfl, ?_⟩
  cases dv with
  | k r =>
    obtain ⟨z, hm, vs, rel, dd⟩ := dk_rd I.hok hr
    exact dd.typeIs
  | @t xs _ r =>
    obtain ⟨hm, hl, nd, o, es, ep, h1, h2, h3, h4⟩ := (show ObjOk _ _ H s.heap a (.ext (TD X.prog X.w a xs)) from rd_of I.hok hr).1
    exact ⟨o, h1, h2.1⟩
theorem ix_dct (hu : X.A.units + 64 < cLine) : IxR X (rDGet X.prog X.w X.K) := by
  intro value slice pins s σ H x y u u' Q I rx ry ⟨dx, kvs, d, hy, hx, hf, hv, q⟩ hs
  obtain ⟨a, uo, rfl, hr, dv⟩ := hx.dct
  have : u = .ref a := rx
  subst this
  obtain ⟨a', e, hT⟩ := in_dct (d := d) I hx
  cases e
  unfold fitK at hf
  rw [Bool.or_eq_true, Bool.and_eq_true, Bool.and_eq_true] at hf
  rcases hf with ⟨f1, f2⟩ | ⟨f1, f2⟩
  · obtain ⟨k, rfl, rfl⟩ := flat_key hy f1
    obtain ⟨hd, ks, vs, r, rel, _, dd⟩ := dv_k I hr dv f2
    obtain ⟨v, e1, pv⟩ := (val_k k r).2 d hv
    obtain ⟨w', hw, rw'⟩ := RelO.some_of (v := v) (o := valueAt vs k) (by rw [← e1]; exact rel.val k)
    exact PyProof.Rows.subscriptTail_builtinR (x := w') hT PySem.F.slot_dict_getitem.lookup (wpAny_getItem_of (kV_is ry) dd.mapOf hw ⟨rfl, v, H, I.tok _, rw', q v pv⟩) hs
  · obtain ⟨k, hk⟩ := Option.isSome_iff_exists.mp f1
    obtain ⟨b, rfl, ib⟩ := (tup_pr hy hk).keyT I hk
    have : u' = .ref b := ry
    subst this
    obtain ⟨hd, xs, r, _, dd⟩ := dv_t I hr dv f2
    obtain ⟨p, v, e1, rv, pv⟩ := (val_t hk r).2 d hv
    exact PyProof.Rows.subscriptTail_builtinR (x := p.2) hT PySem.F.slot_dict_getitem.lookup (wpAny_getItem_heap (knd := nestedKind X.prog X.w) (in1_units (by omega)) ib dd e1 ⟨rfl, v, H, I.tok _, rv, q v pv⟩) hs
def opIxA : List D → Option A
  | [.dict kvs, x] => if fitK kvs x then (valD kvs x).map .d else none
  | ds => opIx ds
def rIxA (P : Program) (w : World) (K : PySem.W.Frag) : R2 := fun x y H Q => rIxD K x y H Q ∨ rDGet P w K x y H Q
theorem ix_A (hu : X.A.units + 64 < cLine) : IxR X (rIxA X.prog X.w X.K) := ix_D.or (ix_dct hu)
theorem ops_ixA : OpS P w K (fun vs H Q => ∃ x y, vs = [x, y] ∧ rIxA P w K x y H Q) opIxA := by
  intro H vs ds z Q r e k
  unfold opIxA at e
  split at e
  · obtain ⟨x, y, rfl, hx, hy⟩ := r.two
    split at e
    · rename_i hf
      obtain ⟨d, e1, e2⟩ := Option.map_eq_some_iff.mp e
      cases e2
      exact ⟨x, y, rfl, .inr ⟨_, _, d, hy, hx, hf, e1, fun v pv => k v H (Same.refl H) (.of pv)⟩⟩
    · cases e
  · obtain ⟨x, y, e1, e2⟩ := ops_ix H vs ds z Q r e k
    exact ⟨x, y, e1, .inl e2⟩
/-! ### len(d) -/
def opLenA : List D → Option A
  | [.dict kvs] => some (.d (.int kvs.length))
  | ds => opLen ds
def rLenA (P : Program) (w : World) (K : PySem.W.Frag) : V → Hp → VK → Prop := fun x H Q => rLen1 K x H Q ∨ ∃ kvs, RRd P w K H x (.dict kvs) ∧ Q (.int kvs.length) H
theorem dv_raw (I : Inv X pins σ H s) {a : Addr} {u : HO} {kvs : List (D × D)} (h : Rd H a u) (dv : DV X.prog X.w X.K H a u kvs) :
    (a == sysModules) = false ∧ ∃ o es ep, s.heap.get? a = some o ∧ o.ExactDict ∧ o.data = .dict es ep ∧ es.size = kvs.length ∧ kvs.length ≤ sizeLine ∧
      ∀ (i : Nat) (k d : D), kvs[i]? = some (k, d) → ∃ en : DictEntry, es[i]? = some en ∧ (∃ v, RelV v en.key ∧ PR X.prog X.w X.K H v k) ∧ ∃ v, RelV v en.val ∧ PR X.prog X.w X.K H v d := by
  cases dv with
  | @k ks _ r =>
    obtain ⟨z, hm, vs, rel, o, es, ep, h1, h2, h3, h4, h5, h6⟩ := dk_rd I.hok h
    have l1 : vs.length = kvs.length := by rw [← rel.length, r.len]
    have l2 : es.size = vs.length := by rw [← Array.length_toList]; exact h5.length
    refine ⟨hm, o, es, ep, h1, h2, h3, l2.trans l1, by rw [← r.len]; exact z, fun i k d e => ?_⟩
    have get : ∀ {ks : List (Key × V)} {vs : List (Key × Value)} {es : List DictEntry} {kvs : List (D × D)}, PRk X.prog X.w X.K H ks kvs → KV ks vs → Pairs (mixKind X.prog X.w) es vs → ∀ (i : Nat) (k d : D), kvs[i]? = some (k, d) →
        ∃ en : DictEntry, es[i]? = some en ∧ (∃ v, RelV v en.key ∧ PR X.prog X.w X.K H v k) ∧ ∃ v, RelV v en.val ∧ PR X.prog X.w X.K H v d := by
      intro ks vs es kvs r rel pp
      induction ks generalizing vs es kvs with
      | nil => cases r; intro i k d e; simp at e
      | cons y ys ih =>
        cases r with
        | @cons k0 v0 d0 _ ds0 hv r =>
          cases rel with
          | @cons _ q0 _ _ rq rel =>
            cases pp with
            | @cons en _ _ _ hk hv2 pp =>
              intro i k d e
              cases i with
              | zero =>
                simp only [List.getElem?_cons_zero, Option.some.injEq, Prod.mk.injEq] at e
                obtain ⟨rfl, rfl⟩ := e
                have hq : k0 = q0.1 := rq.1
                have hrv : RelV v0 q0.2 := rq.2
                refine ⟨en, rfl, ⟨kV k0, ?_, keyD_pr⟩, v0, by rw [hv2]; exact hrv, hv⟩
                rw [← hq] at hk
                rcases keyIs_shape (show keyIs k0 en.key = true from hk) with ⟨i, t, rfl, e⟩ | ⟨x, t, rfl, e⟩
                · exact ⟨t, e⟩
                · exact ⟨t, e⟩
              | succ i => exact ih r rel pp i k d (by simpa using e)
    obtain ⟨en, e1, e2⟩ := get r rel h5 i k d e
    exact ⟨en, by rw [← Array.getElem?_toList]; exact e1, e2⟩
  | @t xs _ r =>
    obtain ⟨hm, hl, nd, o, es, ep, h1, h2, h3, h4⟩ := (show ObjOk _ _ H s.heap a (.ext (TD X.prog X.w a xs)) from rd_of I.hok h).1
    have l2 : es.size = xs.length := by rw [← Array.length_toList, h4, List.length_map]
    refine ⟨hm, o, es, ep, h1, h2, h3, l2.trans r.len, by rw [← r.len]; exact hl, fun i k d e => ?_⟩
    have get : ∀ {xs : List (NestedKey × Addr × Value)} {kvs : List (D × D)}, PRt X.prog X.w X.K H xs kvs → ∀ (i : Nat) (k d : D), kvs[i]? = some (k, d) →
        ∃ y, xs[i]? = some y ∧ PR X.prog X.w X.K H (.ref y.2.1) k ∧ ∃ v, RelV v y.2.2 ∧ PR X.prog X.w X.K H v d := by
      intro xs kvs r
      induction xs generalizing kvs with
      | nil => cases r; intro i k d e; simp at e
      | cons y ys ih =>
        cases r with
        | cons hb hk ru hv r =>
          intro i k d e
          cases i with
          | zero =>
            simp only [List.getElem?_cons_zero, Option.some.injEq, Prod.mk.injEq] at e
            obtain ⟨rfl, rfl⟩ := e
            exact ⟨_, rfl, hb, _, ru, hv⟩
          | succ i => exact ih r i k d (by simpa using e)
    obtain ⟨y, e1, e2, v, e3, e4⟩ := get r i k d e
    refine ⟨entryOfKey (nestedKind X.prog X.w) y, by rw [← Array.getElem?_toList, h4, List.getElem?_map, e1]; rfl, ⟨.ref y.2.1, rfl, e2⟩, v, e3, e4⟩
theorem call_lenA : CallR X (.builtin "len") (fun vs H Q => ∃ x, vs = [x] ∧ rLenA X.prog X.w X.K x H Q) := by
  intro pins s σ H xs us Q I r ⟨x, e, h⟩
  subst e
  rcases h with h | ⟨kvs, h, q⟩
  · exact call_lenE pins s σ H _ us Q I r ⟨x, rfl, h⟩
  · obtain ⟨u, rfl, rx⟩ := vals1 r
    obtain ⟨a, uo, rfl, hr, dv⟩ := h.dct
    have : u = .ref a := rx
    subst this
    cases dv with
    | k r =>
      rw [← r.len] at q
      exact d_len I hr fun t s' I' => ⟨.int _, H, I', ⟨t, rfl⟩, q⟩
    | @t xs _ r =>
      obtain ⟨hm, hl, nd, o, es, ep, h1, h2, h3, h4⟩ := (show ObjOk _ _ H s.heap a (.ext (TD X.prog X.w a xs)) from rd_of I.hok hr).1
      rw [← r.len] at q
      exact call_len_dictH (knd := nestedKind X.prog X.w) hm ⟨o, es, ep, h1, h2, h3, h4, r.is I, nd⟩ (by rw [sizeLine_eq] at hl; omega) ⟨.int _, H, I.tok _, ⟨_, rfl⟩, q⟩
theorem ops_lenA : OpS P w K (fun vs H Q => ∃ x, vs = [x] ∧ rLenA P w K x H Q) opLenA := by
  intro H vs ds z Q r e k
  unfold opLenA at e
  split at e
  · obtain ⟨x, rfl, hx⟩ := r.one
    cases e
    exact ⟨x, rfl, .inr ⟨_, hx, k _ _ (Same.refl H) (.of (.int _))⟩⟩
  · obtain ⟨x, e1, e2⟩ := ops_len H vs ds z Q r e k
    exact ⟨x, e1, .inl e2⟩
/-! ### d[x] = y -/
def sDict : A → D → D → Option A
  | .m kvs, x, d => if fitK kvs x && decide (kvs.length < lim) then some (.m (putD kvs x d)) else none
  | _, _, _ => none
def rSetD (P : Program) (w : World) (K : PySem.W.Frag) : TSet := fun o i v H Q => ∃ a kvs dx dv, o = .ref a ∧ ARep P w K H (.ref a) (.m kvs) ∧ RRd P w K H i dx ∧ PR P w K H v dv ∧ fitK kvs dx = true ∧ kvs.length < sizeLine ∧ ∀ u, ARep P w K (upd H a u) (.ref a) (.m (putD kvs dx dv)) → Q (upd H a u)
theorem put_len {kvs : List (D × D)} {x d : D} : (putD kvs x d).length ≤ kvs.length + 1 := by
  unfold putD
  split
  · rw [List.length_map]; omega
  · simp
theorem set_dct (hu : X.A.units + 64 < cLine) : PSet X (rSetD X.prog X.w X.K) := by
  intro pins s σ H o i v ov iv u Q I ro ri rv ⟨a, kvs, dx, dv, ea, ha, hx, hv, hf, hl, q⟩
  subst ea
  obtain ⟨a', uo, e, hr, du⟩ := ha
  cases e
  have : ov = .ref a := ro
  subst this
  have dv' : DV X.prog X.w X.K H a uo kvs := by
    cases du with
    | k r => exact .k r
    | t n r => exact .t r
  have mu : Mut (H a) := by
    rw [hr]
    cases du with
    | k r => exact True.intro
    | t n r => exact True.intro
  unfold fitK at hf
  rw [Bool.or_eq_true, Bool.and_eq_true, Bool.and_eq_true] at hf
  have pe : ∀ {w' : HO}, Pers H (upd H a w') := fun {w'} => by
    refine ⟨fun b xs qq => ?_, fun b o' u' qq => ?_⟩
    all_goals
      have : b ≠ a := fun z => by subst z; rw [hr] at qq; cases qq; cases du
      rw [upd_ne this]; exact qq
  rcases hf with ⟨f1, f2⟩ | ⟨f1, f2⟩
  · obtain ⟨k, rfl, rfl⟩ := flat_key hx f1
    obtain ⟨hd, ks, vs, r, rel, z, dd⟩ := dv_k I (.inl hr) dv' f2
    refine wpAny_setItem_pairs (hsz := by rw [← rel.length]; exact z) (kV_is ri) dd fun h' dd' hs => ?_
    have he : ∃ q, h'.get? a = some q := let ⟨q, _, _, hq, _⟩ := dd'; ⟨q, hq⟩
    have hl2 : (putK ks k v).length ≤ sizeLine := by have := length_putK ks k v; have := r.len; omega
    exact ⟨_, d_write I mu hs he (dk_new hl2 hd (rel.put k rv) dd'), q _ ⟨a, _, rfl, upd_same, .k ((put_k k hv r).mono pe)⟩⟩
  · obtain ⟨k, hk⟩ := Option.isSome_iff_exists.mp f1
    have hp := tup_pr hx hk
    obtain ⟨b, rfl, ib⟩ := hp.keyT I hk
    have : iv = .ref b := ri
    subst this
    obtain ⟨hd, xs, r, z, dd⟩ := dv_t I (.inl hr) dv' f2
    refine wpAny_setItem_heap (knd := nestedKind X.prog X.w) (hsz := z) (in1_units (by omega)) ib dd fun h' dd' hs => ?_
    obtain ⟨q', es, ep, hq, h2, h3, h4, h5, h6⟩ := dd'
    have rr := put_t hk hp rv hv r
    have hl2 : (storedH xs k b u).length ≤ sizeLine := by rw [rr.len]; have := put_len (kvs := kvs) (x := dx) (d := dv); omega
    have ne : storedH xs k b u ≠ [] := by
      intro z
      have e1 := rr.len
      rw [z] at e1
      have : putD kvs dx dv ≠ [] := by
        unfold putD
        split
        · rename_i ha
          cases kvs with
          | nil => simp at ha
          | cons => simp
        · simp
      exact this (List.length_eq_zero_iff.mp e1.symm)
    refine ⟨_, d_write I mu hs ⟨q', hq⟩ (ob := .ext (TD X.prog X.w a (storedH xs k b u))) ⟨⟨hd, hl2, h6, q', es, ep, hq, h2, h3, h4⟩, ⟨q', hq⟩, fun h1 h2 t k => ?_⟩, q _ ⟨a, _, rfl, upd_same, .t ne (rr.mono pe)⟩⟩
    obtain ⟨t1, t2, t3, o, es, ep, t4, t5⟩ := t
    exact ⟨t1, t2, t3, o, es, ep, k o t4, t5⟩
theorem set_dictS : SetS P w K (rSetD P w K) sDict := by
  intro H a x x' vi v di dv Q r hx ri pv e k
  unfold sDict at e
  split at e
  · split at e
    · rename_i hf
      cases e
      rw [Bool.and_eq_true, decide_eq_true_eq] at hf
      exact ⟨a, _, _, _, rfl, r, ri, pv, hf.1, by rw [← lim_eq]; exact hf.2, k⟩
    · cases e
  · cases e
end
end Iv
set_option Elab.async false
set_option linter.all false
set_option maxRecDepth 100000
set_option maxHeartbeats 1000000
/-! Iv, dicts: displays, walks. -/
namespace Iv
open PySem L2

def evDict0 : M R := fun Γ => some (.ok (.a (.m []), Γ))
def evDict1 (fk fv : M R) : M R := fun Γ => bnd (fz fk Γ) fun rk Γ => bnd (fz fv Γ) fun rv Γ => match datas [rk, rv] with
  | some [x, d] => if fitK [] x then some (.ok (.a (.m [(x, d)]), Γ)) else none
  | _ => none
section
variable {P : Program} {w : World} {K : PySem.W.Frag} {Tb : List (Addr × Str)} {c : Ctx Tb} {Γ Γ' Γ1 Γ2 : Env} {σ σ' : L2.St} {H H' H1 H2 : Hp} {E : XK} {X : Cx} {pins : List (Addr × Obj)} {s : Shared}
theorem pe_dict0E {pos : Pos} : PE X (.Dict [] [] pos) (tE P w K Tb evDict0 E) :=
  PE.weak pe_dnewK fun σ H Q ⟨c, Γ, S, q⟩ => fun p hp => q _ _ (Stp.same S (same_upd hp)) ⟨⟨p, _, rfl, upd_same, .k .nil⟩, fun _ => ⟨p, rfl, hp, fun i => S.cne hp⟩⟩
/-- behind the pair the new dict at p gets it -/
theorem stp_disp (S : SRel P w K c Γ σ H) {p : Addr} {u : HO} (hp : H p = none) (T : Stp P w K c Γ σ (upd H p (.dK [])) Γ' H') : H' p = some (.dK []) ∧ Stp P w K c Γ σ H Γ' (upd H' p u) ∧ ∀ i, ¬ CAt Γ' σ i p := by
  have nc : ∀ i, ¬ CAt Γ σ i p := fun i h => S.cne hp h
  have e : H' p = some (.dK []) := T.keep p _ upd_same (nT_fresh S.tabs hp) nc
  have nc' : ∀ i, ¬ CAt Γ' σ i p := fun i h => nc i (T.shp i p h)
  have T0 := (Stp.same S (same_upd hp)).trans T
  have S' := T.rel
  have h0 := S.fresh hp
  have pe : Pers H' (upd H' p u) := by
    refine ⟨fun b xs q => ?_, fun b o' u' q => ?_⟩
    all_goals
      have : b ≠ p := fun z => by subst z; rw [e] at q; cases q
      rw [upd_ne this]; exact q
  refine ⟨e, ⟨⟨S'.len, fun i f x e1 => ?_, S'.apart, fun b o q t z => ?_, tabs_upd (P := P) (w := w) S'.tabs e (.dK _), fun i b q z => ?_, S'.own, S'.bor, S'.fns⟩, fun b o q t z => ?_, T0.pers.trans pe, fun b q => ?_, T0.shp, T0.defd⟩, nc'⟩
  · obtain ⟨v, e2, r⟩ := S'.rep i f x e1
    refine ⟨v, e2, ?_⟩
    cases hx : x.isC with
    | false => cases x with
      | d x => exact PR.mono pe r
      | _ => cases hx
    | true =>
      refine r.keep pe fun a u ea q => ?_
      have : a ≠ p := fun z => nc' i ⟨f, x, e1, hx, by rw [e2, ea, z]⟩
      rw [upd_ne this]; exact q
  · have : b ≠ p := fun y => by subst y; rw [h0] at q; cases q
    rw [upd_ne this]
    exact S'.frame b o q t z
  · by_cases y : b = p
    · subst y; rw [upd_same] at z; cases z
    · rw [upd_ne y] at z; exact S'.there i b q z
  · rw [upd_ne (ne_of_none q hp)]
    exact T0.keep b o q t z
  · by_cases y : b = p
    · rw [y]; exact hp
    · rw [upd_ne y] at q; exact T0.back b q
theorem pers_upd_dK {p : Addr} {u : HO} (e : H' p = some (.dK [])) : Pers H' (upd H' p u) := by
  refine ⟨fun b xs q => ?_, fun b o' u' q => ?_⟩
  all_goals
    have : b ≠ p := fun z => by subst z; rw [e] at q; cases q
    rw [upd_ne this]; exact q
theorem d_setA {Q : Unit → Shared → Prop} {a : Addr} {kvs : List (Iv.D × Iv.D)} {dx dv : Iv.D} {i v : V} {iv u : Value} (hu : X.A.units + 64 < cLine) (I : Inv X pins σ H s) (ri : RelV i iv) (rv : RelV v u) (ha : ARep X.prog X.w X.K H (.ref a) (.m kvs)) (hx : RRd X.prog X.w X.K H i dx) (hv : PR X.prog X.w X.K H v dv)
    (hf : fitK kvs dx = true) (hl : kvs.length < sizeLine) {EE : Value → Shared → Prop} (q : ∀ u s', ARep X.prog X.w X.K (upd H a u) (.ref a) (.m (putD kvs dx dv)) → Inv X pins σ (upd H a u) s' → Q () s') : wpAny (model X.prog X.w) X.A (dictSet a iv u) Q EE s := by
  obtain ⟨a', uo, e, hr, du⟩ := ha
  cases e
  have dv' : DV X.prog X.w X.K H a uo kvs := by
    cases du with
    | k r => exact .k r
    | t n r => exact .t r
  have mu : Mut (H a) := by
    rw [hr]
    cases du with
    | k r => exact True.intro
    | t n r => exact True.intro
  unfold fitK at hf
  rw [Bool.or_eq_true, Bool.and_eq_true, Bool.and_eq_true] at hf
  have pe : ∀ {w' : HO}, Pers H (upd H a w') := fun {w'} => by
    refine ⟨fun b xs qq => ?_, fun b o' u' qq => ?_⟩
    all_goals
      have : b ≠ a := fun z => by subst z; rw [hr] at qq; cases qq; cases du
      rw [upd_ne this]; exact qq
  rcases hf with ⟨f1, f2⟩ | ⟨f1, f2⟩
  · obtain ⟨k, rfl, rfl⟩ := flat_key hx f1
    obtain ⟨hd, ks, vs, r, rel, z, dd⟩ := dv_k I (.inl hr) dv' f2
    refine wpAny_dictSet_pairs (hsz := by rw [← rel.length]; exact z) (kV_is ri) dd fun h' dd' hs => ?_
    have he : ∃ q, h'.get? a = some q := let ⟨q, _, _, hq, _⟩ := dd'; ⟨q, hq⟩
    have hl2 : (putK ks k v).length ≤ sizeLine := by have := length_putK ks k v; have := r.len; omega
    exact q _ _ ⟨a, _, rfl, upd_same, .k ((put_k k hv r).mono pe)⟩ (d_write I mu hs he (dk_new hl2 hd (rel.put k rv) dd'))
  · obtain ⟨k, hk⟩ := Option.isSome_iff_exists.mp f1
    have hp := tup_pr hx hk
    obtain ⟨b, rfl, ib⟩ := hp.keyT I hk
    have : iv = .ref b := ri
    subst this
    obtain ⟨hd, xs, r, z, dd⟩ := dv_t I (.inl hr) dv' f2
    refine wpAny_dictSet_heap (knd := nestedKind X.prog X.w) (hsz := z) (show X.A.units + 8 < cLine by omega) ib dd fun h' dd' hs => ?_
    obtain ⟨q', es, ep, hq, h2, h3, h4, h5, h6⟩ := dd'
    have rr := put_t hk hp rv hv r
    have hl2 : (storedH xs k b u).length ≤ sizeLine := by rw [rr.len]; have := put_len (kvs := kvs) (x := dx) (d := dv); omega
    have ne : storedH xs k b u ≠ [] := by
      intro z
      have e1 := rr.len
      rw [z] at e1
      have : putD kvs dx dv ≠ [] := by
        unfold putD
        split
        · rename_i ha
          cases kvs with
          | nil => simp at ha
          | cons => simp
        · simp
      exact this (List.length_eq_zero_iff.mp e1.symm)
    refine q _ _ ⟨a, _, rfl, upd_same, .t ne (rr.mono pe)⟩ (d_write I mu hs ⟨q', hq⟩ (ob := .ext (TD X.prog X.w a (storedH xs k b u))) ⟨⟨hd, hl2, h6, q', es, ep, hq, h2, h3, h4⟩, ⟨q', hq⟩, fun h1 h2 t k => ?_⟩)
    obtain ⟨t1, t2, t3, o, es, ep, t4, t5⟩ := t
    exact ⟨t1, t2, t3, o, es, ep, k o t4, t5⟩
theorem pe_dict1E {k v : Expr} {pos : Pos} {fk fv : M R} (hu : X.A.units + 64 < cLine) (hk : PE X k (tE X.prog X.w X.K Tb fk E)) (hv : PE X v (tE X.prog X.w X.K Tb fv E)) : PE X (.Dict [some k] [v] pos) (tE X.prog X.w X.K Tb (evDict1 fk fv) E) := by
  have hps := pps_cons (pos := pos) (pe_fzE hk) (pe_fzE hv) pps_nil
  refine ⟨fun pins s σ H Q I ⟨c, Γ, S, q⟩ => ?_⟩
  have hn := I.hok.fresh (Nat.le_refl s.heap.objs.size)
  have I1 := I.laid (a := s.heap.objs.size) (o := .dK []) (h' := s.heap.push { cls := .type "dict", data := .dict #[] }) (t' := s.toks) (fun _ _ q => Heap.get?_push_of_some _ q) (Nat.le_refl _) (dk_empty s.heap I.big)
  -- the pair
  have S1 := S.same (same_upd (o := .dK []) hn)
  have key : tPairs [(tE X.prog X.w X.K Tb (fz fk) E, tE X.prog X.w X.K Tb (fz fv) E)] σ (upd H s.heap.objs.size (.dK [])) fun ps H2 => ∃ x y dx dy Γ2, ps = [(x, y)] ∧ Stp X.prog X.w X.K c Γ σ (upd H s.heap.objs.size (.dK [])) Γ2 H2 ∧ PR X.prog X.w X.K H2 x dx ∧ PR X.prog X.w X.K H2 y dy ∧ fitK [] dx = true ∧
      ∀ v H', Stp X.prog X.w X.K c Γ σ H Γ2 H' → RRep X.prog X.w X.K c Γ2 σ H H' v (.a (.m [(dx, dy)])) → Q v H' := by
    refine ⟨c, Γ, S1, (Aft_bnd.mp q).imp fun rk Γ1 ek q x H1 T1 rx => ⟨c, Γ1, T1.rel, (Aft_bnd.mp q).imp fun rv Γ2 ev q y H2 T2 ry => ?_⟩⟩
    obtain ⟨rk, rfl⟩ := fz_of ek
    obtain ⟨rv, rfl⟩ := fz_of ev
    have fx := (FRep.of rx).stp T1.rel T2
    have fy := FRep.of ry
    split at q
    · rename_i dx dy ed
      split at q
      · rename_i hf
        have pr := datas_rep (.cons fx (.cons fy .nil)) ed
        obtain ⟨x', y', e, p1, p2⟩ := pr.two
        cases e
        exact ⟨x, y, dx, dy, Γ2, rfl, T1.trans T2, p1, p2, hf, q⟩
      · exact q.elim
    · exact q.elim
  refine wpAny_Dict_any rfl rfl (by simp) (by simp) (thn (hps.run pins _ σ _ _ I1 key) fun ws s2 ⟨ps, H2, I2, rel, x, y, dx, dy, Γ2, ep, T, px, py, hf, q⟩ => ?_)
  subst ep
  cases rel with
  | @cons _ wv _ _ rw' rn =>
    cases rn
    obtain ⟨wk, wv⟩ := wv
    obtain ⟨e, _, nc⟩ := stp_disp (u := .dK []) S hn T
    unfold storeAll
    rw [List.forIn_cons]
    refine wpAny_bind (wpAny_bind (d_setA hu I2 rw'.1 rw'.2 ⟨_, _, rfl, e, .k .nil⟩ (.of px) py hf (by rw [sizeLine_eq]; decide) fun u s3 ra I3 => wpAny_pure ?_))
    show wpAny _ _ (forIn ([] : List (Value × Value)) PUnit.unit _) _ _ _
    rw [List.forIn_nil]
    refine wpAny_pure ⟨.ref s.heap.objs.size, _, I3, rfl, ?_⟩
    obtain ⟨_, T2, nc⟩ := stp_disp (u := u) S hn T
    exact q _ _ T2 ⟨ra, fun _ => ⟨_, rfl, hn, nc⟩⟩

/-! ### the keys, the pairs of a dict that is frozen -/
/-- the dict at d, with the object o, is frozen -/
def FD (P : Program) (w : World) (K : PySem.W.Frag) (H : Hp) (d : Addr) (o : Obj) (kvs : List (Iv.D × Iv.D)) : Prop := ∃ u, H d = some (.frz o u) ∧ DV P w K H d u kvs
theorem FD.mono (p : Pers H H') {d : Addr} {o : Obj} {kvs : List (Iv.D × Iv.D)} (h : FD P w K H d o kvs) : FD P w K H' d o kvs := by
  obtain ⟨u, h, dv⟩ := h
  refine ⟨u, p.frz _ _ _ h, ?_⟩
  cases dv with
  | k r => exact .k (r.mono p)
  | t r => exact .t (r.mono p)
theorem PR.fd {v : V} {kvs : List (Iv.D × Iv.D)} (h : PR P w K H v (.dict kvs)) : ∃ d o, v = .ref d ∧ FD P w K H d o kvs := by
  cases h with
  | dk h r => exact ⟨_, _, rfl, _, h, .k r⟩
  | dt h r => exact ⟨_, _, rfl, _, h, .t r⟩
theorem FD.raw (I : Inv X pins σ H s) {d : Addr} {o : Obj} {kvs : List (Iv.D × Iv.D)} (h : FD X.prog X.w X.K H d o kvs) : (d == sysModules) = false ∧ s.heap.get? d = some o ∧ o.ExactDict ∧ ∃ es ep, o.data = .dict es ep ∧ es.size = kvs.length ∧ kvs.length ≤ sizeLine ∧
      ∀ (i : Nat) (k e : Iv.D), kvs[i]? = some (k, e) → ∃ en : DictEntry, es[i]? = some en ∧ (∃ v, RelV v en.key ∧ PR X.prog X.w X.K H v k) ∧ ∃ v, RelV v en.val ∧ PR X.prog X.w X.K H v e := by
  obtain ⟨u, h, dv⟩ := h
  obtain ⟨hm, o', es, ep, h1, h2, h3, h4, h5, h6⟩ := dv_raw I (.inr ⟨o, h⟩) dv
  have h0 : s.heap.get? d = some o := (show ObjOk _ _ H s.heap d (.frz o u) from I.hok d _ h).1
  rw [h0] at h1
  cases h1
  exact ⟨hm, h0, h2, es, ep, h3, h4, h5, h6⟩
def ItkD (P : Program) (w : World) (K : PySem.W.Frag) (d : Addr) (o : Obj) (kvs : List (Iv.D × Iv.D)) : It :=
  ⟨fun i H => FD P w K H d o kvs ∧ i < kvs.length, fun i H x H' => H' = H ∧ ∃ k e, kvs[i]? = some (k, e) ∧ PR P w K H x k, fun i H => FD P w K H d o kvs ∧ kvs.length ≤ i⟩
def ItiD (P : Program) (w : World) (K : PySem.W.Frag) (d : Addr) (o : Obj) (kvs : List (Iv.D × Iv.D)) : It :=
  ⟨fun i H => FD P w K H d o kvs ∧ i < kvs.length, fun i H x H' => ∃ T k e, kvs[i]? = some (k, e) ∧ H T = none ∧ Same H H' ∧ x = .ref T ∧ PR P w K H' x (.tuple [k, e]), fun i H => FD P w K H d o kvs ∧ kvs.length ≤ i⟩
theorem turn_keysD {tg : Expr} {d : Addr} {o : Obj} {es : Array DictEntry} {ep : Nat} {kvs : List (Iv.D × Iv.D)} (it : Addr) (hod : o.data = .dict es ep) : Turn P w K tg (ItkD P w K d o kvs) [it] it (fun i h => h.IsKeyIter it d i kvs.length ep) where
  mem := by simp
  obj := fun i h st b hb => by
    have e : b = it := by simpa using hb
    subst e
    obtain ⟨oi, e, c, dd⟩ := st
    exact ⟨oi, e, fun v z => by rw [dd] at z; cases z⟩
  keep := fun i h h' st k => st.at fun oi e => k it (by simp) oi e
  item := by
    intro X hP hw hK hc i pins s σ H E I hf st hg
    subst hP hw hK
    obtain ⟨hd, hi⟩ := hg
    obtain ⟨f0, f1, f2, f3, f4, f5⟩ := hf it (by simp)
    obtain ⟨hm, hgd, hx, es', ep', hdt, hsz, hl, ent⟩ := hd.raw I
    obtain ⟨rfl, rfl⟩ := dict_ep hod hdt
    obtain ⟨⟨k, v⟩, hkv⟩ : ∃ p, kvs[i]? = some p := ⟨kvs[i], List.getElem?_eq_getElem hi⟩
    obtain ⟨en, hen, ⟨q, hkey, hq⟩, _⟩ := ent i k v hkv
    refine next_key_item st hgd hdt hsz hen fun h' st' sb => ?_
    have I1 : Inv X pins σ H { s with heap := h' } := I.turned (t' := s.toks) (fun b ob hb e => (sb.2 b hb).trans e) f0 f1 f3 f4 f5
    obtain ⟨oi, e, c, dd⟩ := id st'
    exact ⟨en.key, rfl, go_of (s := { s with heap := h' }) e c dd (by decide) ⟨q, H, I1, hkey, ⟨rfl, k, v, hkv, hq⟩, st', fun b hb => (hf b hb).1⟩⟩
  done := by
    intro X hP hw hK hc i pins s σ H E I hf st hg
    subst hP hw hK
    obtain ⟨hd, hi⟩ := hg
    obtain ⟨f0, f1, f2, f3, f4, f5⟩ := hf it (by simp)
    obtain ⟨hm, hgd, hx, es', ep', hdt, hsz, hl, ent⟩ := hd.raw I
    obtain ⟨rfl, rfl⟩ := dict_ep hod hdt
    exact next_key_end (I.ok.hd hc) st hgd hdt hsz hi fun h' eb => ⟨rfl, I.turned (t' := s.toks) (fun b ob hb e => eb b ob hb e) f0 f1 f3 f4 f5⟩
  self := fun A i s Q E st h => by
    refine wpAny_pyIter_slot st.typeIs F.slot_dict_keyiterator_iter (wpAny_call_entry F.slot_dict_keyiterator_iter st.typeIs F.entry_dict_keyiterator_iter ?_ (F.args_dict_keyiterator_iter_1 _))
    show wpAny _ _ (ret (.ref it)) _ _ s
    exact wpAny_pure ⟨_, rfl, "dict_keyiterator", _, st.typeIs, F.slot_dict_keyiterator_next.lookup, h⟩
theorem turn_itemsD2 {d : Addr} {o : Obj} {es : Array DictEntry} {ep : Nat} {kvs : List (Iv.D × Iv.D)} {elts : List Expr} {kk : Nat} {tpos : Pos} (it : Addr) (hod : o.data = .dict es ep) :
    Turn P w K (.Tuple elts kk tpos) (ItiD P w K d o kvs) [it] it (fun i h => ∃ ok ov, IsItemIter h it d i kvs.length ep ok ov) where
  mem := by simp
  obj := fun i h st b hb => by
    have e : b = it := by simpa using hb
    subst e
    obtain ⟨ok, ov, e⟩ := st
    exact ⟨_, e, fun v z => nomatch z⟩
  keep := fun i h h' st k => let ⟨ok, ov, e⟩ := st; ⟨ok, ov, k it (by simp) _ e⟩
  item := by
    intro X hP hw hK hc i pins s σ H E I hf st hg
    subst hP hw hK
    obtain ⟨hd, hi⟩ := hg
    obtain ⟨hm, hgd, hx, es', ep', hdt, hsz, hl, ent⟩ := hd.raw I
    obtain ⟨rfl, rfl⟩ := dict_ep hod hdt
    obtain ⟨⟨k, v⟩, hkv⟩ : ∃ p, kvs[i]? = some p := ⟨kvs[i], List.getElem?_eq_getElem hi⟩
    obtain ⟨en, hen, ⟨vk, rk, pk⟩, vv, rv, pv⟩ := ent i k v hkv
    obtain ⟨hlt', hen⟩ := Array.getElem?_eq_some_iff.mp hen
    obtain ⟨ok, ov, he⟩ := st
    rw [← hsz] at he
    have hlt : it < s.heap.objs.size := Heap.lt_size he
    refine wpAny_pyNext_items_item_raw he ⟨o, hgd, hx, hdt⟩ hlt' fun h' ho hT hz hk => ?_
    refine ⟨_, rfl, wpAny_letOwnedTupleGo_items (s := { s with heap := h' }) ho fun h'' he' sb => ?_⟩
    rw [hen] at hT he'
    have hT2 : h''.get? s.heap.objs.size = some { cls := .type "tuple", data := .seq #[en.key, en.val] } := (sb.2 _ (Nat.ne_of_gt hlt)).trans hT
    have new : ObjOk X.prog X.w (upd H s.heap.objs.size (.tup [vk, vv])) h'' s.heap.objs.size (.tup [vk, vv]) :=
      ⟨by show 2 ≤ sizeLine; decide, [en.key, en.val], .cons rk (.cons rv .nil), ⟨_, hT2, rfl, _, rfl⟩⟩
    have I1 : Inv X pins σ (upd H s.heap.objs.size (.tup [vk, vv])) { s with heap := h'' } :=
      I.turnedNew (t' := s.toks) (ch := [it]) (fun b ob hb e => (sb.2 b (by simpa using hb)).trans (hk b ob (by simpa using hb) e)) hf (Nat.le_refl _) new
    have hn := I.hok.fresh (Nat.le_refl s.heap.objs.size)
    refine ⟨.ref s.heap.objs.size, _, I1, rfl, ⟨_, k, v, hkv, hn, same_upd hn, rfl, ANew.pair hn pk pv⟩, ⟨en.key, en.val, ?_⟩, fun b hb => ?_⟩
    · rw [← hsz]; exact he'
    · have e : b = it := by simpa using hb
      rw [e, upd_ne (Nat.ne_of_lt hlt)]
      exact (hf it (by simp)).1
  done := by
    intro X hP hw hK hc i pins s σ H E I hf st hg
    subst hP hw hK
    obtain ⟨hd, hi⟩ := hg
    obtain ⟨f0, f1, f2, f3, f4, f5⟩ := hf it (by simp)
    obtain ⟨hm, hgd, hx, es', ep', hdt, hsz, hl, ent⟩ := hd.raw I
    obtain ⟨rfl, rfl⟩ := dict_ep hod hdt
    obtain ⟨ok, ov, he⟩ := st
    rw [← hsz] at he hi
    exact wpAny_pyNext_items_end_raw (I.ok.hd hc) he ⟨o, hgd, hx, hdt⟩ hi fun h' eb => ⟨rfl, I.turned (t' := s.toks) (fun b ob hb e => eb b ob hb e) f0 f1 f3 f4 f5⟩
  self := fun A i s Q E st h => let ⟨_, _, e⟩ := st; PySem.W.kcp_self e h
/-- for k in d -/
def itKeys (f : M R) : M (List Iv.D) := fun Γ => bnd (fz f Γ) fun r Γ => match r with
  | .a (.d (.dict kvs)) => some (.ok (kvs.map (·.1), Γ))
  | _ => none
def itItems (f : M R) : M (List Iv.D) := fun Γ => bnd (fz f Γ) fun r Γ => match r with
  | .a (.d (.dict kvs)) => some (.ok (kvs.map (fun p => .tuple [p.1, p.2]), Γ))
  | _ => none
theorem pi_keysE {tg e : Expr} {f : M R} (h : PE X e (tE X.prog X.w X.K Tb f E)) : PI X tg e (tIt X.prog X.w X.K Tb (itKeys f) E) := by
  refine ⟨fun pins s σ H R I ⟨c, Γ, S, q⟩ => ?_⟩
  refine thn ((pe_fzE h).run pins s σ H (fun v H1 => ∃ d o kvs, v = .ref d ∧ FD X.prog X.w X.K H1 d o kvs ∧ R (ItkD X.prog X.w X.K d o kvs) H1) I ⟨c, Γ, S, (Aft_bnd.mp q).imp fun r Γ1 er q v H1 T rr => ?_⟩) fun u s1 ⟨x, H1, I1, rx, d, o, kvs, ex, fd, q⟩ => ?_
  · obtain ⟨r, rfl⟩ := fz_of er
    split at q
    · rename_i kvs e
      rw [e] at rr
      obtain ⟨d, o, e, fd⟩ := PR.fd rr.1
      refine ⟨d, o, kvs, e, fd, (show ∀ J H', _ from q) _ H1 T ⟨fun i H2 hi p => ⟨fd.mono p, by simpa using hi⟩, fun H2 p => ⟨fd.mono p, by simp⟩, fun i H2 x H3 hi p y => ?_⟩⟩
      obtain ⟨rfl, k, e, hk, pk⟩ := y
      exact ⟨Same.refl _, k, by simp [hk], pk⟩
    · exact q.elim
  · subst ex
    obtain rfl : u = Value.ref d := rx
    obtain ⟨hm, hgd, hx, es, ep, hdt, hsz, hl, ent⟩ := fd.raw I1
    refine iter_keys hm hgd hx hdt (pi_one (tk := s1.toks) I1 _ (turn_keysD _ hdt) ⟨_, Heap.get?_push_size _ rfl, rfl, ?_⟩ q)
    rw [hsz] <;> rfl
theorem pi_itemsE {e : Expr} {f : M R} {elts : List Expr} {kk : Nat} {tpos apos cpos : Pos} (he : PE X e (tE X.prog X.w X.K Tb f E)) (hbase : attributeBase e "items" X.env (eval e X.env) = eval e X.env) (hline : (apos.endLine == cpos.line) = true) :
    PI X (.Tuple elts kk tpos) (.Call (.Attribute e "items" apos) [] [] cpos) (tIt X.prog X.w X.K Tb (itItems f) E) := by
  refine ⟨fun pins s σ H R I ⟨c, Γ, S, q⟩ => ?_⟩
  refine wpAny_Call_method (T := "dict") (id := "dict.items") hbase rfl hline F.plainAttrs_dict F.slot_dict_items F.type_dict_items (thn ((pe_fzE he).run pins s σ H (fun v H1 => ∃ d o kvs, v = .ref d ∧ FD X.prog X.w X.K H1 d o kvs ∧ R (ItiD X.prog X.w X.K d o kvs) H1) I ⟨c, Γ, S, (Aft_bnd.mp q).imp fun r Γ1 er q v H1 T rr => ?_⟩) fun u s1 ⟨x, H1, I1, rx, d, o, kvs, ex, fd, q⟩ => ?_)
  · obtain ⟨r, rfl⟩ := fz_of er
    split at q
    · rename_i kvs e
      rw [e] at rr
      obtain ⟨d, o, e, fd⟩ := PR.fd rr.1
      refine ⟨d, o, kvs, e, fd, (show ∀ J H', _ from q) _ H1 T ⟨fun i H2 hi p => ⟨fd.mono p, by simpa using hi⟩, fun H2 p => ⟨fd.mono p, by simp⟩, fun i H2 x H3 hi p y => ?_⟩⟩
      obtain ⟨T, k, e, hk, hT, sm, ex, pk⟩ := y
      exact ⟨sm, _, by simp [hk], pk⟩
    · exact q.elim
  · subst ex
    obtain rfl : u = Value.ref d := rx
    obtain ⟨hm, hgd, hx, es, ep, hdt, hsz, hl, ent⟩ := fd.raw I1
    have hr : s1.heap.DictRaw d es ep := ⟨o, hgd, hx, hdt⟩
    refine ⟨hr.typeIs, fun b q => by cases q; exact ⟨o, hgd, hx.2.1⟩, ?_⟩
    have I2 : Inv X pins σ H1 { s1 with heap := s1.heap.push { cls := .type "dict_items", data := .fields #[.ref d] } } := I1.kept (t' := s1.toks) fun b ob q => Heap.get?_push_of_some _ q
    have fin : wpAny (model X.prog X.w) X.A (pyIter (.ref s1.heap.objs.size)) (PIE X pins σ (.Tuple elts kk tpos) R) X.xe { s1 with heap := s1.heap.push { cls := .type "dict_items", data := .fields #[.ref d] } } := by
      refine wpAny_pyIter_items_raw (d := d) ⟨_, Heap.get?_push_size _ rfl, rfl, rfl⟩ (hr.at fun _ e => Heap.get?_push_of_some _ e) (pi_one (tk := s1.toks) I2 _ (turn_itemsD2 _ hdt) ⟨.none, .none, ?_⟩ q)
      rw [← hsz]
      exact Heap.get?_push_size _ rfl
    show wpAny _ _ (callWith cpos (.builtin "dict.items") [.ref d] [] []) _ X.xe s1
    exact method_meetsIn F.slot_dict_items F.entry_dict_items rfl (PySem.evalArgs_none ⟨rfl, hr.typeIs, F.args_dict_items_1 _, _, meets_dict_items_raw d hm, ⟨⟨es, ep, hr⟩, fin⟩⟩)

/-! ### list(d), sorted(d) -/
def opListA : List Iv.D → Option A
  | [.dict kvs] => some (.l (kvs.map (·.1)))
  | ds => opList ds
def opSortedA : List Iv.D → Option A
  | [.dict kvs] => if sortOk (kvs.map (·.1)) then some (.l (sortD (kvs.map (·.1)))) else none
  | ds => opSorted ds
def rListD (P : Program) (w : World) (K : PySem.W.Frag) : List V → Hp → VK → Prop := fun xs H Q => ∃ x kvs, xs = [x] ∧ RRd P w K H x (.dict kvs) ∧ ∀ p ys, H p = none → PRs P w K H ys (kvs.map (·.1)) → Q (.ref p) (upd H p (.lst ys))
def rSortedD (P : Program) (w : World) (K : PySem.W.Frag) : List V → Hp → VK → Prop := fun xs H Q => ∃ x kvs, xs = [x] ∧ RRd P w K H x (.dict kvs) ∧ sortOk (kvs.map (·.1)) = true ∧ ∀ p ys, H p = none → PRs P w K H ys (sortD (kvs.map (·.1))) → Q (.ref p) (upd H p (.lst ys))
theorem src_raw {P : Program} {w : World} {d : Addr} {o : Obj} {es : Array DictEntry} {ep : Nat} (lo : (d == sysModules) = false) (hx : o.ExactDict) (hd : o.data = .dict es ep) :
    PySem.W.KdlSrc P w "dict" d d es.size (fun i v => ∃ en : DictEntry, es[i]? = some en ∧ v = en.key) (fun h => h.get? d = some o) := kdl_raw lo hx hd
theorem keys_acc {kvs : List (Iv.D × Iv.D)} {es : Array DictEntry} (hsz : es.size = kvs.length) (ent : ∀ (i : Nat) (k e : Iv.D), kvs[i]? = some (k, e) → ∃ en : DictEntry, es[i]? = some en ∧ (∃ v, RelV v en.key ∧ PR P w K H v k) ∧ ∃ v, RelV v en.val ∧ PR P w K H v e)
    {acc : List Value} (hl : acc.length = es.size) (ha : ∀ (j : Nat) (v : Value), acc[j]? = some v → ∃ en : DictEntry, es[j]? = some en ∧ v = en.key) : ∃ xs, Vals xs acc ∧ PRs P w K H xs (kvs.map (·.1)) := by
  have each : ∀ (j : Nat), j < acc.length → ∃ v k, (∃ u, acc[j]? = some u ∧ RelV v u) ∧ (kvs.map (·.1))[j]? = some k ∧ PR P w K H v k := fun j hj => by
    obtain ⟨en, e1, e2⟩ := ha j acc[j] (List.getElem?_eq_getElem hj)
    have hk : j < kvs.length := by omega
    obtain ⟨en', e3, ⟨v, rv, pv⟩, _⟩ := ent j kvs[j].1 kvs[j].2 (List.getElem?_eq_getElem hk)
    rw [e1] at e3
    cases e3
    exact ⟨v, kvs[j].1, ⟨_, List.getElem?_eq_getElem hj, by rw [e2]; exact rv⟩, by rw [List.getElem?_map, List.getElem?_eq_getElem hk]; rfl, pv⟩
  have hl2 : acc.length = (kvs.map (·.1)).length := by rw [List.length_map]; omega
  clear ent ha hsz hl
  generalize kvs.map (·.1) = ks at *
  clear kvs es
  induction acc generalizing ks with
  | nil =>
    cases ks with
    | nil => exact ⟨[], .nil, .nil⟩
    | cons => simp at hl2
  | cons a acc ih =>
    cases ks with
    | nil => simp at hl2
    | cons k ks =>
      obtain ⟨v, k', ⟨u, e1, rv⟩, e2, pv⟩ := each 0 (by simp)
      cases e1
      cases e2
      obtain ⟨xs, r1, r2⟩ := ih ks (fun j hj => by simpa using each (j + 1) (by simpa using hj)) (by simpa using hl2)
      exact ⟨v :: xs, .cons rv r1, .cons pv r2⟩
theorem call_listDct (hc : X.calm = true) : CallR X (.type "list") (rListD X.prog X.w X.K) := by
  intro pins s σ H xs us Q I r ⟨x, kvs, ex, hd, q⟩
  subst ex
  obtain ⟨u, eu, rx⟩ := vals1 r
  subst eu
  obtain ⟨a, uo, rfl, hr, dv⟩ := hd.dct
  have : u = .ref a := rx
  subst this
  obtain ⟨hm, o, es, ep, h1, h2, h3, h4, h5, h6⟩ := dv_raw I hr dv
  refine PySem.W.kdl_call (src_raw hm h2 h3) (I.ok.hd hc) h1 (by omega) fun h' tk acc c' hk hD hacc => ?_
  obtain ⟨ys, rv, pv⟩ := keys_acc h4 h6 (acc := acc.toList) (by rw [Array.length_toList]; exact hacc.1) fun j v e => hacc.2 j v (by rw [← Array.getElem?_toList]; exact e)
  exact ⟨.ref s.heap.objs.size, upd H s.heap.objs.size (.lst ys), I.laid (t' := tk) hk (Nat.le_refl _)
    (show ObjOk X.prog X.w _ _ _ (.lst ys) from ⟨by rw [pv.length, List.length_map]; exact h5, acc.toList, c', rv, by rw [Array.toArray_toList]; exact hD⟩), rfl, q _ _ (I.hok.fresh (Nat.le_refl _)) pv⟩
theorem call_sortedDct (hc : X.calm = true) (hu : X.A.units + 64 < cLine) : CallR X (.builtin "sorted") (rSortedD X.prog X.w X.K) := by
  intro pins s σ H xs us Q I r ⟨x, kvs, ex, hd, ok, q⟩
  subst ex
  obtain ⟨u, eu, rx⟩ := vals1 r
  subst eu
  obtain ⟨a, uo, rfl, hr, dv⟩ := hd.dct
  have : u = .ref a := rx
  subst this
  obtain ⟨hm, o, es, ep, h1, h2, h3, h4, h5, h6⟩ := dv_raw I hr dv
  refine Calls.call_function_entry PyProof.Rows.kind_sorted PyProof.Rows.plain_sorted PyProof.Rows.entry_sorted (PyProof.Rows.args_sorted1 _) ?_
  unfold Builtin.«sorted»
  refine wpAny_bind (m := checkCount "sorted" 1 1 _) (wpAny_pure ?_)
  refine wpAny_bind (PySem.W.kdu_collect (A := X.A.in1) (src_raw hm h2 h3) (I.ok.hd hc) h1 (by omega) fun h' tk acc hk hacc => ?_)
  obtain ⟨xs, rv, pv⟩ := keys_acc h4 h6 (acc := acc.toList) (by rw [Array.length_toList]; exact hacc.1) fun j v e => hacc.2 j v (by rw [← Array.getElem?_toList]; exact e)
  have hal : acc.toList.length ≤ sizeLine := by rw [Array.length_toList, hacc.1]; omega
  have I1 : Inv X pins σ H { s with heap := h', toks := tk } := I.kept hk
  refine wpAny_bind (wpAny_newList ?_ hal)
  have hoL : (h'.push (PyProof.Rows.seqObj "list" acc.toList.toArray 0)).get? h'.objs.size = some (PyProof.Rows.seqObj "list" acc.toList.toArray 0) := Heap.get?_push_size _ rfl
  show wpAny _ _ _ _ _ { s with heap := h'.push (PyProof.Rows.seqObj "list" acc.toList.toArray 0), toks := tk }
  obtain ⟨g1, g2, g3⟩ := sortOk_of ok
  have each := each_of rv pv
  have er : ∀ h2 : Heap, (∀ b o, h'.get? b = some o → h2.get? b = some o) → PySem.W.EachIs (fun v b => ∃ as, Reads h2 v (id b) as) acc.toList (kvs.map (·.1)) := fun h2 k2 => by
    have I3 : Inv X pins σ H { s with heap := h2, toks := tk } := I1.kept k2
    clear q each g1 g2 ok h6 hacc hal hoL
    generalize kvs.map (·.1) = ks at *
    generalize acc.toList = ac at *
    induction rv generalizing ks with
    | nil => cases pv; exact .nil
    | cons h _ ih => cases pv with
      | cons hp t =>
        obtain ⟨as, r⟩ := Dp.reads I3 _ _ _ (PR.dp hp (g3 _ (List.mem_cons_self ..)).1) h
        exact .cons ⟨as, r⟩ (ih _ t fun d hd => g3 d (List.mem_cons_of_mem _ hd))
  have er' := er (PySem.W.sortingHeap (h'.push (PyProof.Rows.seqObj "list" acc.toList.toArray 0)) h'.objs.size acc.toList) fun b o e => PySem.W.sortingHeap_old (Nat.ne_of_lt (Heap.lt_size e)) (Heap.get?_push_of_some _ e)
  refine wpAny_bind (wpAny_holding (wpAny_call_entry PyProof.Rows.slot_list_sort ⟨_, hoL, rfl⟩ PyProof.Rows.entry_list_sort
    (PySem.W.list_sort_vals (s := { s with heap := h'.push (PyProof.Rows.seqObj "list" acc.toList.toArray 0), toks := tk }) (κ := PySem.W.dataKind (PySem.W.sortingHeap (h'.push (PyProof.Rows.seqObj "list" acc.toList.toArray 0)) h'.objs.size acc.toList) ((kvs.map (·.1)).map id)) hoL
      (PySem.W.SortsAt.data (s := { s with heap := PySem.W.sortingHeap (h'.push (PyProof.Rows.seqObj "list" acc.toList.toArray 0)) h'.objs.size acc.toList, toks := tk }) (PySem.W.each_map (R := fun v d => ∃ as, Reads (PySem.W.sortingHeap (h'.push (PyProof.Rows.seqObj "list" acc.toList.toArray 0)) h'.objs.size acc.toList) v d as) id er') g1 g2 (PySem.W.bound_map fun b hb => ?_)) hal ⟨_, rfl, ?_⟩) (PyProof.Rows.args_list_sort _)))
  · have := (g3 b hb).2
    show X.A.units + 1 + 1 + b.depth < cLine
    omega
  · have eo := PySem.W.sortVals_data (enc := id) false each er' g1
    rw [dataLe_sort] at eo
    obtain ⟨ys, ry, py⟩ := of_each eo
    obtain ⟨e', he'⟩ := PyProof.Rows.sortedHeap_at (vs := acc.toList) (out := (PySem.W.sortVals (PySem.W.dataKind (PySem.W.sortingHeap (h'.push (PyProof.Rows.seqObj "list" acc.toList.toArray 0)) h'.objs.size acc.toList) ((kvs.map (·.1)).map id)) false acc.toList acc.toList).toArray) hoL
    have hlen : ys.length ≤ sizeLine := by rw [py.length]; rw [← sortD_eq, sortD_len, List.length_map]; exact h5
    refine wpAny_pure ⟨_, rfl, .ref h'.objs.size, upd H h'.objs.size (.lst ys), I1.laid (t' := tk) (fun b u e => ?_) (Nat.le_refl _)
      (show ObjOk X.prog X.w _ _ _ (.lst ys) from ⟨hlen, _, e', ry, he'⟩), rfl, q _ _ (I1.hok.fresh (Nat.le_refl _)) (by rw [sortD_eq]; exact py)⟩
    have hb : b < h'.objs.size := Heap.lt_size e
    rw [PyProof.Rows.sortedHeap_old (Nat.ne_of_lt hb) (by rw [PyProof.Rows.size_push']; exact Nat.lt_succ_of_lt hb)]
    exact Heap.get?_push_of_some _ e
theorem ops_listA : OpS P w K (fun xs H Q => (∃ p ys, xs = [.ref p] ∧ (SqL K H p ys ∨ SqT K H p ys) ∧ ∀ l, H l = none → Q (.ref l) (upd H l (.lst ys))) ∨ rListD P w K xs H Q) opListA := by
  intro H vs ds z Q r e k
  unfold opListA at e
  split at e
  · obtain ⟨x, rfl, hx⟩ := r.one
    cases e
    exact .inr ⟨x, _, rfl, hx, fun p ys hp r2 => k _ _ (same_upd hp) (.lst hp r2)⟩
  · exact .inl (ops_list H vs ds z Q r e k)
theorem call_listA (hc : X.calm = true) : CallR X (.type "list") (fun xs H Q => (∃ p ys, xs = [.ref p] ∧ (SqL X.K H p ys ∨ SqT X.K H p ys) ∧ ∀ l, H l = none → Q (.ref l) (upd H l (.lst ys))) ∨ rListD X.prog X.w X.K xs H Q) := call_list_of.or (call_listDct hc)
theorem ops_sortedA : OpS P w K (fun xs H Q => rSortD P w K xs H Q ∨ rSortedD P w K xs H Q) opSortedA := by
  intro H vs ds z Q r e k
  unfold opSortedA at e
  split at e
  · obtain ⟨x, rfl, hx⟩ := r.one
    split at e
    · rename_i h
      cases e
      exact .inr ⟨x, _, rfl, hx, h, fun p ys hp r2 => k _ _ (same_upd hp) (.lst hp r2)⟩
    · cases e
  · exact .inl (ops_sorted H vs ds z Q r e k)
theorem call_sortedA (hc : X.calm = true) (hu : X.A.units + 64 < cLine) : CallR X (.builtin "sorted") (fun xs H Q => rSortD X.prog X.w X.K xs H Q ∨ rSortedD X.prog X.w X.K xs H Q) := (cr_sortD hu).or (call_sortedDct hc hu)
end
end Iv
set_option Elab.async false
set_option linter.all false
set_option maxRecDepth 100000
set_option maxHeartbeats 1000000
/-! Iv: dict comprehensions, keys ints and texts; several tests; chained comparisons as tests. -/
namespace Iv
open PySem L2

def evDcLoop (g : Bd) (t : M Bool) (k e : M R) (vs : List Nat) : List Iv.D → List (Iv.D × Iv.D) → M (List (Iv.D × Iv.D))
  | [], out, Γ => some (.ok (out, Γ))
  | d :: ds, out, Γ => match g d (wipeE Γ vs) with
    | none => none
    | some Γ => bnd (nox (t Γ)) fun b Γ => if b then bnd (nox (fz k Γ)) fun rk Γ => bnd (nox (fz e Γ)) fun r Γ => match datas [rk, r] with
        | some [x, y] => if isFlat x && decide (out.length < lim) then evDcLoop g t k e vs ds (putD out x y) Γ else none
        | _ => none
      else evDcLoop g t k e vs ds out Γ
def evDc (f : M (List Iv.D)) (g : Bd) (t : M Bool) (k e : M R) (vs : List Nat) : M R := fun Γ => bnd (f Γ) fun ds Γ0 => bnd (evDcLoop g t k e vs ds [] Γ0) fun out Γ => some (.ok (.a (.m out), backE Γ0 (wipeE Γ vs) vs))
section
variable {P : Program} {w : World} {K : PySem.W.Frag} {Tb : List (Addr × Str)} {c : Ctx Tb} {Γ Γ' Γ1 Γ2 : Env} {σ σ' : L2.St} {H H' H1 H2 : Hp} {E : XK} {X : Cx} {D : Ends}
theorem SRel.freeU (S : SRel P w K c Γ σ H) {D : Addr} {u u' : HO} (h : H D = some u) (hc : Cont P w D u) (pe : Pers H (upd H D u')) (h0 : c.H0 D = none) (n : ∀ i, ¬ CAt Γ σ i D) : SRel P w K c Γ σ (upd H D u') := by
  refine ⟨S.len, fun i f x e => ?_, S.apart, fun b o q t z => ?_, tabs_upd S.tabs h hc, fun i b q z => ?_, S.own, S.bor, S.fns⟩
  · obtain ⟨v, e1, r⟩ := S.rep i f x e
    refine ⟨v, e1, ?_⟩
    cases hx : x.isC with
    | false => cases x with
      | d x => exact PR.mono pe r
      | _ => cases hx
    | true => exact r.keep pe fun a u ea q => (upd_ne (show a ≠ D from fun z => n i ⟨f, x, e, hx, by rw [e1, ea, z]⟩)).trans q
  · exact (upd_ne (show b ≠ D from fun y => by subst y; rw [h0] at q; cases q)).trans (S.frame b o q t z)
  · by_cases y : b = D
    · subst y; rw [upd_same] at z; cases z
    · rw [upd_ne y] at z; exact S.there i b q z
theorem Stp.freeU (T : Stp P w K c Γ σ H Γ1 H1) {D : Addr} {u u' : HO} (h : H1 D = some u) (hc : Cont P w D u) (pe : Pers H1 (upd H1 D u')) (hD : H D = none) (h0 : c.H0 D = none) (n : ∀ i, ¬ CAt Γ1 σ i D) : Stp P w K c Γ σ H Γ1 (upd H1 D u') :=
  ⟨T.rel.freeU h hc pe h0 n, fun b o q t z => (upd_ne (ne_of_none q hD)).trans (T.keep b o q t z), T.pers.trans pe, fun p q => by
    by_cases y : p = D
    · rw [y]; exact hD
    · rw [upd_ne y] at q; exact T.back p q, T.shp, T.defd⟩
theorem pers_dK {D : Addr} {ks : List (Key × V)} {u : HO} (e : H D = some (.dK ks)) : Pers H (upd H D u) := by
  constructor
  · intro b xs q
    exact (upd_ne fun z => by subst z; rw [e] at q; cases q).trans q
  · intro b o u' q
    exact (upd_ne fun z => by subst z; rw [e] at q; cases q).trans q
theorem tDcE {f : M (List Iv.D)} {g : Bd} {t : M Bool} {k e : M R} {vs js : List Nat} {Q : VK} (bo : BdOk js g) (hjs : ∀ j ∈ js, j ∈ vs) (q : tE P w K Tb (evDc f g t k e vs) E σ H Q) :
    tDc (tIt P w K Tb f E) (tG P w K Tb js g) (tT P w K Tb t E0) (tE P w K Tb (fz k) E0) (tE P w K Tb (fz e) E0) vs σ H Q := by
  obtain ⟨c, Γ, S, q⟩ := q
  refine ⟨c, Γ, S, (Aft_bnd.mp q).imp fun ds Γ0 _ q J H1 T0 ok Dn hD => ?_⟩
  have hD0 : c.H0 Dn = none := T0.rel.fresh hD
  have ntD : nT Tb Dn := nT_fresh T0.rel.tabs hD
  have S0 := T0.rel
  have q := Aft_bnd.mp q
  have nD : ∀ i, ¬ CAt (wipeE Γ0 vs) (wipe σ vs) i Dn := fun i h => (S0.wipe vs).cne hD h
  let Inv' : Nat → Hp → Prop := fun i H' => Pers H1 H' ∧ ∃ Γi out ks, Stp P w K c (wipeE Γ0 vs) (wipe σ vs) H1 (wipeE Γi vs) H' ∧ H' Dn = some (.dK ks) ∧ PRk P w K H' ks out ∧
      Aft (evDcLoop g t k e vs (ds.drop i) out Γi) (fun x => XPost P w K c x E) fun out Γ' => Aft (some (.ok (R.a (.m out), backE Γ0 (wipeE Γ' vs) vs)) : Res R) (fun x => XPost P w K c x E) fun r Γ' => ∀ v H', Stp P w K c Γ σ H Γ' H' → RRep P w K c Γ' σ H H' v r → Q v H'
  refine ⟨fun i m H' => m + i = ds.length ∧ Inv' i H', ⟨ds.length, rfl, Pers.same (same_upd hD), Γ0, [], [], Stp.same (S0.wipe vs) (same_upd hD), upd_same, .nil, q⟩, fun i m H2 ⟨hm, p2, Γi, out, ks, T, hd, ro, q⟩ => ?_⟩
  by_cases hi : i < ds.length
  · refine .inr ⟨ok.goes i H2 hi p2, Inv' (i + 1), fun H' h => ⟨m - 1, by omega, by omega, h⟩, fun x H3 y => ?_⟩
    obtain ⟨sm, d, ed, pd⟩ := ok.yields i H2 x H3 hi p2 y
    have e1 : ds.drop i = d :: ds.drop (i + 1) := by
      rw [List.drop_eq_getElem_cons hi]
      rw [List.getElem?_eq_getElem hi] at ed
      cases ed
      rfl
    rw [e1] at q
    unfold evDcLoop at q
    split at q
    · exact q.elim
    · rename_i Γb eg
      refine ⟨c, wipeE Γi vs, d, Γb, T.rel.same sm, pd, eg, fun σ2 S2 hσ => ?_⟩
      have hlen : σ2.length = σ.length := by rw [← S2.len, bo.len _ _ _ eg, T.rel.len, wipe_length]
      have hw : wipe σ2 vs = wipe σ vs :=
        (wipe_of (σ := L2.wipe σ vs) (by rw [wipe_length]; exact hlen) fun j hj => hσ j fun z => hj (hjs j z)).trans (wipe_of (σ := σ) (wipe_length σ vs) fun j hj => wipe_ne hj)
      refine ⟨hw, c, Γb, S2, (Aft.nox (Aft_bnd.mp q)).imp fun b Γ2 _ q H4 T2 => ?_⟩
      obtain ⟨TA, cb⟩ := turnStp bo hjs T sm eg hw hσ T2
      cases b with
      | false => exact iteF ⟨TA.pers, Γ2, out, ks, TA, T2.keep Dn _ (sm _ _ hd) ntD fun j h => nD j (cb j Dn h), ro.mono ((Pers.same sm).trans T2.pers), q⟩
      | true =>
        refine iteT ⟨c, Γ2, T2.rel, (Aft.nox (Aft_bnd.mp (show Aft (bnd (nox (fz k Γ2)) _) _ _ from q))).imp fun rk Γ3 _ q yk H5 T3 rrk => ⟨c, Γ3, T3.rel, (Aft.nox (Aft_bnd.mp q)).imp fun r Γ4 _ q ye H6 T4 rre => ?_⟩⟩
        have T24 := (T2.trans T3).trans T4
        obtain ⟨TB, cb'⟩ := turnStp bo hjs T sm eg hw hσ T24
        have hd6 : H6 Dn = some (.dK ks) := T24.keep Dn _ (sm _ _ hd) ntD fun j h => nD j (cb' j Dn h)
        have ro6 : PRk P w K H6 ks out := ro.mono ((Pers.same sm).trans T24.pers)
        split at q
        · rename_i x' y' hx
          split at q
          · rename_i hl
            rw [Bool.and_eq_true, decide_eq_true_eq] at hl
            have fr : ∀ {v : V} {r : R} {Γ : Env} {Ha Hb : Hp} {z : Iv.D}, RRep P w K c Γ σ2 Ha Hb v r → datas [r] = some [z] → PR P w K Hb v z := fun {v r Γ Ha Hb z} rr e => by
              cases r with
              | sl j => simp [datas] at e
              | a z' =>
                cases z' with
                | d z' => simp [datas] at e; subst e; exact rr.1
                | l z => simp [datas] at e
                | m z => simp [datas] at e
            have two : datas [rk] = some [x'] ∧ datas [r] = some [y'] := by
              cases rk with
              | sl j => simp [datas] at hx
              | a z =>
                cases z with
                | d z =>
                  cases r with
                  | sl j => simp [datas] at hx
                  | a z2 =>
                    cases z2 with
                    | d z2 => simp [datas] at hx ⊢; exact hx
                    | l z => simp [datas] at hx
                    | m z => simp [datas] at hx
                | l z => simp [datas] at hx
                | m z => simp [datas] at hx
            have pk := PR.mono T4.pers (fr rrk two.1)
            have pe := fr rre two.2
            obtain ⟨key, rfl, rfl⟩ := flat_key (.of pk) hl.1
            exact ⟨ks, key, rfl, hd6, by rw [ro6.len, ← lim_eq]; exact hl.2, TB.pers.trans (pers_dK hd6), Γ4, _, _, TB.freeU hd6 (.dK _) (pers_dK hd6) hD hD0 (fun j h => nD j (TB.shp j Dn h)), upd_same, (put_k key pe ro6).mono (pers_dK hd6), q⟩
          · exact q.elim
        · exact q.elim
  · have ei : i = ds.length := by omega
    subst ei
    refine .inl ⟨ok.stops H2 p2, ?_⟩
    rw [List.drop_length] at q
    have q : ∀ v H', Stp P w K c Γ σ H (backE Γ0 (wipeE Γi vs) vs) H' → RRep P w K c (backE Γ0 (wipeE Γi vs) vs) σ H H' v (.a (.m out)) → Q v H' := q
    have TU : Stp P w K c Γ0 σ H1 (backE Γ0 (wipeE Γi vs) vs) H2 := Stp.unwipe S0 T
    exact q (.ref Dn) H2 (T0.trans TU) ⟨⟨Dn, _, rfl, hd, .k ro⟩, fun _ => ⟨Dn, rfl, T0.back Dn hD, fun j h => S0.cne hD (TU.shp j Dn h)⟩⟩
/-- {k: v for tg in it if ..} -/
theorem pe_dcE {kx vx tg iter : Expr} {ifs : List Expr} {scope : Scope} {own : List (Str × Nat)} {pos : Pos} {f : M (List Iv.D)} {js : List Nat} {g : Bd} {t : M Bool} {k e : M R} (hc : X.calm = true) (hN : X.N.Nodup) (hi : PI X tg iter (tIt P w K Tb f E)) (ok : BlkOk X.N X.env.scope scope own)
    (hg : ∀ (s : Shared) (H : Hp) (C : Addr) (cl : List (Str × Addr)) (fp : List Addr), PG (X.blk s H scope (compEnvC scope cl C X.env) fp) tg (tG P w K Tb js g)) (ht : ∀ (s : Shared) (H : Hp) (C : Addr) (cl : List (Str × Addr)) (fp : List Addr), PTs (X.blk s H scope (compEnvC scope cl C X.env) fp) ifs (tT P w K Tb t E0))
    (hk : ∀ (s : Shared) (H : Hp) (C : Addr) (cl : List (Str × Addr)) (fp : List Addr), PE (X.blk s H scope (compEnvC scope cl C X.env) fp) kx (tE P w K Tb k E0)) (he : ∀ (s : Shared) (H : Hp) (C : Addr) (cl : List (Str × Addr)) (fp : List Addr), PE (X.blk s H scope (compEnvC scope cl C X.env) fp) vx (tE P w K Tb e E0))
    (hs : ∀ x, foldedSetIterable iter X.env x = pure x) (bo : BdOk js g) (hjs : ∀ j ∈ js, j ∈ own.map (·.2)) : PE X (.DictComp kx vx [⟨tg, iter, ifs, 0⟩] scope pos) (tE P w K Tb (evDc f g t k e (own.map (·.2))) E) :=
  PE.weak (pe_dc hc hN hi ok hg ht (fun s H C cl fp => pe_fzE (hk s H C cl fp)) (fun s H C cl fp => pe_fzE (he s H C cl fp)) hs) fun _ _ _ q => tDcE bo hjs q

/-! ### tests of a comprehension -/
theorem PTs.weak {e : List Expr} {t t' : TT} (h : PTs X e t) (w : ∀ σ H Q, t' σ H Q → t σ H Q) : PTs X e t' := ⟨fun pins s σ H Q I q => h.run pins s σ H Q I (w σ H Q q)⟩
def evTrue : M Bool := fun Γ => some (.ok (true, Γ))
theorem pts_nilE : PTs X [] (tT P w K Tb evTrue E) := PTs.weak pts_nil fun σ H Q ⟨c, Γ, S, q⟩ => q H (Stp.refl S)
theorem pts_oneE {a : Expr} {t : M Bool} (h : PT X a (tT P w K Tb t E)) : PTs X [a] (tT P w K Tb t E) := pts_one h
end
end Iv
set_option Elab.async false
set_option linter.all false
set_option maxRecDepth 100000
set_option maxHeartbeats 1000000
/-! Iv: a, b = x, y; starred items; name op= e; chained comparisons. -/
namespace Iv
open PySem L2

def evNNil : M (List A) := fun Γ => some (.ok ([], Γ))
def evNCons (f : M R) (g : M (List A)) : M (List A) := fun Γ => bnd (f Γ) fun r Γ => match r with
  | .a x => bnd (g Γ) fun xs Γ => some (.ok (x :: xs, Γ))
  | .sl _ => none
def setAll : List Nat → List A → Env → Option Env
  | [], [], Γ => some Γ
  | j :: js, x :: xs, Γ => if canSet Γ j then setAll js xs (Γ.set j (.c ⟨true⟩ x)) else none
  | _, _, _ => none
def evPar (js : List Nat) (g : M (List A)) : M Fw := fun Γ => bnd (g Γ) fun xs Γ => match setAll js xs Γ with
  | some Γ => some (.ok (.nx, Γ))
  | none => none
def seqA : D → Option (List D)
  | .list ds => some ds
  | .tuple ds => some ds
  | _ => none
def evStar (f : M R) (g : M (List R)) : M (List R) := fun Γ => bnd (fz f Γ) fun r Γ => match (cont Γ r).bind seqA with
  | some ds => bnd (g Γ) fun rs Γ => some (.ok (ds.map (fun d => .a (.d d)) ++ rs, Γ))
  | none => none
section
variable {P : Program} {w : World} {K : PySem.W.Frag} {Tb : List (Addr × Str)} {c : Ctx Tb} {Γ Γ' Γ1 Γ2 : Env} {σ σ' : L2.St} {H H' H1 H2 : Hp} {E : XK} {X : Cx} {D : Ends}
/-- new values, nobody's, apart from one another -/
inductive NReps (P : Program) (w : World) (K : PySem.W.Frag) (H0 : Hp) (Γ : Env) (σ : St) (H : Hp) : List V → List A → Prop
  | nil : NReps P w K H0 Γ σ H [] []
  | cons {v : V} {x : A} {vs : List V} {xs : List A} : ARep P w K H v x → (x.isC = true → ∃ p, v = .ref p ∧ H0 p = none ∧ (∀ j, ¬ CAt Γ σ j p) ∧ ∀ (k : Nat) (y : A), xs[k]? = some y → y.isC = true → vs[k]? ≠ some (.ref p)) → NReps P w K H0 Γ σ H vs xs → NReps P w K H0 Γ σ H (v :: vs) (x :: xs)
theorem NReps.len {H0 : Hp} {vs : List V} {xs : List A} (h : NReps P w K H0 Γ σ H vs xs) : vs.length = xs.length := by
  induction h with
  | nil => rfl
  | cons _ _ _ ih => simp [ih]
def tN (P : Program) (w : World) (K : PySem.W.Frag) (Tb : List (Addr × Str)) (f : M (List A)) (E : XK) : TA := fun σ H Q => ∃ (c : Ctx Tb) (Γ : Env), SRel P w K c Γ σ H ∧
  Aft (f Γ) (fun x => XPost P w K c x E) fun xs Γ' => ∀ vs H', Stp P w K c Γ σ H Γ' H' → NReps P w K c.H0 Γ' σ H' vs xs → (∀ (k : Nat) (p : Addr) (y : A), vs[k]? = some (.ref p) → xs[k]? = some y → y.isC = true → H p = none) → Q vs H'
theorem pan_nil : PA X [] (tN P w K Tb evNNil E) := PA.weak pa_nil fun σ H Q ⟨c, Γ, S, q⟩ => q [] H (Stp.refl S) .nil fun k p y h => by simp at h
theorem pan_cons {e : Expr} {es : List Expr} {f : M R} {g : M (List A)} (ha : PE X e (tE P w K Tb f E)) (hr : PA X es (tN P w K Tb g E)) (hs : nst e = true) : PA X (e :: es) (tN P w K Tb (evNCons f g) E) := by
  refine PA.weak (pa_cons ha hr (star_cons hs)) fun σ H Q ⟨c, Γ, S, q⟩ => ⟨c, Γ, S, (Aft_bnd.mp q).imp fun r Γ1 er q v H1 T rr => ?_⟩
  cases r with
  | sl i => exact q.elim
  | a x =>
    refine ⟨c, Γ1, T.rel, (Aft_bnd.mp q).imp fun xs Γ2 _ q vs H2 T2 nr fresh => ?_⟩
    refine q (v :: vs) H2 (T.trans T2) (.cons ?_ (fun hx => ?_) nr) fun k p y e1 e2 hy => ?_
    · cases hx : x.isC with
      | false => cases x with
        | d x => exact PR.mono T2.pers rr.1
        | _ => cases hx
      | true =>
        obtain ⟨p, rfl, hp, np⟩ := rr.2 hx
        exact rr.1.keep T2.pers fun a u ea q => by
          cases ea
          obtain ⟨p', u', ep, hu, hc⟩ := rr.1.cont hx
          cases ep
          exact T2.keep p u q (nT_of T.rel.tabs hu fun _ => hc.ntbl) np
    · obtain ⟨p, rfl, hp, np⟩ := rr.2 hx
      refine ⟨p, rfl, S.fresh hp, fun j h => np j (T2.shp j p h), fun k y e1 e2 e3 => ?_⟩
      have := fresh k p y e3 e1 e2
      obtain ⟨p', u, ep, hu⟩ := rr.1.at_ hx
      cases ep
      rw [this] at hu
      cases hu
    · cases k with
      | zero =>
        simp only [List.getElem?_cons_zero, Option.some.injEq] at e1 e2
        subst e1 e2
        obtain ⟨p', ep, hp, _⟩ := rr.2 hy
        cases ep
        exact hp
      | succ k => exact T.back p (fresh k p y (by simpa using e1) (by simpa using e2) hy)
/-- the slots js are bound, one behind another -/
theorem setAll_rel : ∀ {js : List Nat} {vs : List V} {xs : List A} {Γ Γ' : Env} {σ : St}, SRel P w K c Γ σ H → NReps P w K c.H0 Γ σ H vs xs → setAll js xs Γ = some Γ' → SRel P w K c Γ' ((js.zip vs).foldl (fun σ p => σ.set p.1 (some p.2)) σ) H
  | [], _, _, _, _, _, S, .nil, e => by cases e; exact S
  | [], _, _, _, _, _, S, .cons _ _ _, e => by cases e
  | j :: js, _, _, _, _, _, S, .nil, e => by cases e
  | j :: js, _, _, Γ, Γ', σ, S, .cons (v := v) (x := x) (vs := vs) (xs := xs) r n t, e => by
    unfold setAll at e
    split at e
    · rename_i hc
      have S1 := S.set hc r fun hx => let ⟨p, e, h0, np, _⟩ := n hx; ⟨p, e, h0, np⟩
      suffices nr : NReps P w K c.H0 (Γ.set j (.c ⟨true⟩ x)) (σ.set j (some v)) H vs xs from setAll_rel (js := js) (vs := vs) (xs := xs) (σ := σ.set j (some v)) S1 nr e
      -- the others stay nobody's
      have key : ∀ {vs' : List V} {xs' : List A}, NReps P w K c.H0 Γ σ H vs' xs' → (∀ (k : Nat) (y : A), xs'[k]? = some y → y.isC = true → x.isC = true → vs'[k]? ≠ some v) → NReps P w K c.H0 (Γ.set j (.c ⟨true⟩ x)) (σ.set j (some v)) H vs' xs' := by
        intro vs' xs' t ne
        induction t with
        | nil => exact .nil
        | @cons v1 x1 vs1 xs1 r1 n1 t1 ih =>
          refine .cons r1 (fun hx1 => ?_) (ih fun k y e1 e2 e3 => by simpa using ne (k + 1) y (by simpa using e1) e2 e3)
          obtain ⟨p, rfl, h0, np, nk⟩ := n1 hx1
          refine ⟨p, rfl, h0, fun i hi => ?_, nk⟩
          obtain ⟨f, y, e1, hy, e2⟩ := hi
          by_cases hij : j = i
          · subst hij
            rw [List.getElem?_set_self (canSet_lt hc)] at e1
            rw [List.getElem?_set_self (by rw [← S.len]; exact canSet_lt hc)] at e2
            cases e1
            cases e2
            exact ne 0 x1 rfl hx1 hy rfl
          · rw [List.getElem?_set_ne hij] at e1 e2
            exact np i ⟨f, y, e1, hy, e2⟩
      refine key t fun k y e1 e2 e3 => ?_
      obtain ⟨p, rfl, _, _, nk⟩ := n e3
      exact nk k y e1 e2
    · cases e
theorem setAll_len : ∀ {js : List Nat} {xs : List A} {Γ Γ' : Env}, setAll js xs Γ = some Γ' → js.length = xs.length
  | [], [], _, _, _ => rfl
  | [], _ :: _, _, _, e => by cases e
  | _ :: _, [], _, _, e => by cases e
  | j :: js, x :: xs, Γ, Γ', e => by
    unfold setAll at e
    split at e
    · simp [setAll_len e]
    · cases e
theorem tParE {js : List Nat} {g : M (List A)} {H : Hp} (q : tS P w K Tb (evPar js g) E D σ H) : tN P w K Tb g E σ H fun vs H1 => vs.length = js.length ∧ D.nx ((js.zip vs).foldl (fun σ p => σ.set p.1 (some p.2)) σ) H1 := by
  obtain ⟨c, Γ, S, q⟩ := q
  refine ⟨c, Γ, S, (Aft_bnd.mp q).imp fun xs Γ1 _ q vs H1 T nr _ => ?_⟩
  split at q
  · rename_i Γ2 e
    have q : SPost P w K c H D .nx Γ2 := q
    exact ⟨by rw [nr.len, setAll_len e], q _ _ (setAll_rel T.rel nr e) T.pers⟩
  · exact q.elim
theorem ps_par2E {i j : Nat} {x y : Str} {a b : Expr} {px py pt : Pos} {kt k2 : Nat} {pt2 pos : Pos} {g : M (List A)} (hc : X.calm = true) (hN : X.N.Nodup) (hi : X.N[i]? = some x) (hj : X.N[j]? = some y) (hij : i ≠ j)
    (hx : X.env.scope.names.lookup x = some .local) (hy : X.env.scope.names.lookup y = some .local) (ha : PA X [a, b] (tN P w K Tb g E))
    (hw : swappedStores [.Tuple [.Name x px, .Name y py] kt pt] (.Tuple [a, b] k2 pt2) X.env = pure (some [x, y]))
    (hs : swapsWithSole [.Tuple [.Name x px, .Name y py] kt pt] (.Tuple [a, b] k2 pt2) pos.line X.env = pure false) :
    PS X (.Assign [.Tuple [.Name x px, .Name y py] kt pt] (.Tuple [a, b] k2 pt2) pos) (tS P w K Tb (evPar [i, j] g) E) := by
  refine PS.weak (ps_par hc hN hi hj hij hx hy ha hw hs) fun D σ H q => ?_
  obtain ⟨c, Γ, S, q⟩ := tParE q
  refine ⟨c, Γ, S, q.imp fun xs Γ1 _ q vs H1 T nr f => ?_⟩
  obtain ⟨hl, q⟩ := q vs H1 T nr f
  match vs, hl with
  | [u, v], _ => exact ⟨u, v, rfl, q⟩
theorem ps_par3E {i j l : Nat} {x y z : Str} {a b d : Expr} {px py pz pt : Pos} {kt k2 : Nat} {pt2 pos : Pos} {g : M (List A)} (hc : X.calm = true) (hN : X.N.Nodup) (hi : X.N[i]? = some x) (hj : X.N[j]? = some y) (hl : X.N[l]? = some z) (hij : i ≠ j) (hil : i ≠ l) (hjl : j ≠ l)
    (hx : X.env.scope.names.lookup x = some .local) (hy : X.env.scope.names.lookup y = some .local) (hz : X.env.scope.names.lookup z = some .local) (ha : PA X [a, b, d] (tN P w K Tb g E))
    (hw : swappedStores [.Tuple [.Name x px, .Name y py, .Name z pz] kt pt] (.Tuple [a, b, d] k2 pt2) X.env = pure (some [x, y, z]))
    (hs : swapsWithSole [.Tuple [.Name x px, .Name y py, .Name z pz] kt pt] (.Tuple [a, b, d] k2 pt2) pos.line X.env = pure false) :
    PS X (.Assign [.Tuple [.Name x px, .Name y py, .Name z pz] kt pt] (.Tuple [a, b, d] k2 pt2) pos) (tS P w K Tb (evPar [i, j, l] g) E) := by
  refine PS.weak (ps_par3 hc hN hi hj hl hij hil hjl hx hy hz ha hw hs) fun D σ H q => ?_
  obtain ⟨c, Γ, S, q⟩ := tParE q
  refine ⟨c, Γ, S, q.imp fun xs Γ1 _ q vs H1 T nr f => ?_⟩
  obtain ⟨hl, q⟩ := q vs H1 T nr f
  match vs, hl with
  | [u, v, w], _ => exact ⟨u, v, w, rfl, q⟩
/-- names, one behind another -/
inductive Names (X : Cx) : List Expr → List Nat → Prop
  | nil : Names X [] []
  | cons {i : Nat} {x : Str} {pos : Pos} {es : List Expr} {js : List Nat} : X.N[i]? = some x → Loc X.env.scope x → (X.fn x = true ∨ X.env.scope.names.lookup x = some .local) → Names X es js → Names X (.Name x pos :: es) (i :: js)
def gSets (js : List Nat) : TGs := fun vs σ H Q => vs.length = js.length ∧ Q ((js.zip vs).foldl (fun σ p => σ.set p.1 (some p.2)) σ) H
theorem pgs_names (hN : X.N.Nodup) : ∀ {es : List Expr} {js : List Nat}, Names X es js → PGs X es (gSets js)
  | _, _, .nil => PGs.weak pgs_nil fun vs σ H Q ⟨h, q⟩ => by
    have : vs = [] := List.length_eq_zero_iff.mp h
    subst this
    exact ⟨rfl, q⟩
  | _, _, .cons (es := es) hi hx hf t => PGs.weak (pgs_cons (pg_name hN hi hx hf) (pgs_names hN t) (by rfl)) fun vs σ H Q ⟨h, q⟩ => by
    cases vs with
    | nil => simp at h
    | cons v vs => exact ⟨v, vs, rfl, by simpa using h, q⟩
/-- a, b, .. = x, y, .. by way of a tuple -/
theorem ps_parTE {es ts : List Expr} {kt k2 : Nat} {pt pt2 pos : Pos} {js : List Nat} {n : Nat} {g : M (List A)} (hc : X.calm = true) (hN : X.N.Nodup) (hj : Names X ts js) (ha : PA X es (tN P w X.K Tb g E)) (hl : js.length ≤ lim)
    (hn : (assignEach ts X.env).length = n) (hjn : js.length = n) (hst : (assignEach ts X.env).findIdx? (·.1) = none) (hw : swappedStores [.Tuple ts kt pt] (.Tuple es k2 pt2) X.env = pure none) (hs : swapsWithSole [.Tuple ts kt pt] (.Tuple es k2 pt2) pos.line X.env = pure false)
    (h1 : (assignEach [.Tuple ts kt pt] X.env).map (·.2) = [assign (.Tuple ts kt pt) X.env]) :
    PS X (.Assign [.Tuple ts kt pt] (.Tuple es k2 pt2) pos) (tS P w X.K Tb (evPar js g) E) := by
  refine PS.weak (ps_asg (pe_tup ha) (pg_tup hc (pgs_names hN hj) hn hst) hs hw h1) fun D σ H q => ?_
  obtain ⟨c, Γ, S, q⟩ := q
  refine ⟨c, Γ, S, (Aft_bnd.mp q).imp fun xs Γ1 _ q vs H1 T nr f => ?_⟩
  split at q
  · rename_i Γ2 e
    have q : SPost P w X.K c H D .nx Γ2 := q
    have hl2 : vs.length = js.length := by rw [nr.len, setAll_len e]
    refine ⟨by rw [hl2, ← lim_eq]; exact hl, fun p hp => ⟨p, vs, rfl, .inl (.inl upd_same), by rw [hl2, hjn], hl2, ?_⟩⟩
    have sm := same_upd (o := .tup vs) hp
    have nr' : ∀ {vs' : List V} {xs' : List A}, NReps P w X.K c.H0 Γ1 σ H1 vs' xs' → NReps P w X.K c.H0 Γ1 σ (upd H1 p (.tup vs)) vs' xs' := fun nr => by
      induction nr with
      | nil => exact .nil
      | cons r n _ ih => exact .cons (r.same sm) n ih
    exact q _ _ (setAll_rel (T.rel.same sm) (nr' nr) e) (T.pers.trans (Pers.same sm))
  · exact q.elim
/-! ### *e -/
theorem FReps.dats {vs : List V} {ds : List Iv.D} (h : PRs P w K H vs ds) : FReps P w K Γ σ H vs (ds.map fun d => .a (.d d)) := by
  induction vs generalizing ds with
  | nil => cases h; exact .nil
  | cons v vs ih => cases h with | cons h t => exact .cons ⟨rfl, h⟩ (ih t)
theorem FReps.append {vs ws : List V} {rs qs : List R} (h : FReps P w K Γ σ H vs rs) (h2 : FReps P w K Γ σ H ws qs) : FReps P w K Γ σ H (vs ++ ws) (rs ++ qs) := by
  induction h with
  | nil => exact h2
  | cons h _ ih => exact .cons h ih
theorem pa_starE {e : Expr} {es : List Expr} {p : Pos} {f : M R} {g : M (List R)} (he : PE X e (tE P w X.K Tb f E)) (hr : PA X es (tA P w X.K Tb g E)) (hs : starEach (.Starred e p :: es) X.env = (true, eval e X.env) :: starEach es X.env) : PA X (.Starred e p :: es) (tA P w X.K Tb (evStar f g) E) := by
  refine PA.weak (StX.pa_star (pe_fzE he) hr hs) fun σ H Q ⟨c, Γ, S, q⟩ => ⟨c, Γ, S, (Aft_bnd.mp q).imp fun r Γ1 er q v H1 T rr => ?_⟩
  obtain ⟨r, rfl⟩ := fz_of er
  have fr := FRep.of rr
  split at q
  · rename_i ds e
    obtain ⟨d, e1, e2⟩ := Option.bind_eq_some_iff.mp e
    have rd := fr.cont T.rel e1
    have key : ∃ a vs, v = .ref a ∧ (SqT X.K H1 a vs ∨ SqL X.K H1 a vs) ∧ PRs P w X.K H1 vs ds := by
      cases d with
      | list xs => cases e2; obtain ⟨a, vs, e, h, r⟩ := rd.lst; exact ⟨a, vs, e, .inr h, r⟩
      | tuple xs => cases e2; obtain ⟨a, vs, e, h, r⟩ := rd.tup; exact ⟨a, vs, e, .inl h, r⟩
      | _ => cases e2
    obtain ⟨a, vs, rfl, hq, pr⟩ := key
    exact ⟨a, vs, rfl, hq, c, Γ1, T.rel, (Aft_bnd.mp q).imp fun rs Γ2 _ q ws H2 T2 fr2 => q (vs ++ ws) H2 (T.trans T2) ((FReps.dats (pr.mono T2.pers)).append fr2)⟩
  · exact q.elim
/-! ### chained comparisons -/
theorem pe_chainE {a b d : Expr} {o o' : CmpOp} {pos : Pos} {r r' : R2} {op op' : List Iv.D → Option A} {fa fb fc : M R} (ho : OpR X (compareOp o) r) (ho' : OpR X (compareOp o') r') (ha : PE X a (tE P w K Tb fa E)) (hb : PE X b (tE P w K Tb fb E)) (hd : PE X d (tE P w K Tb fc E))
    (h : OpS P w K (fun vs H Q => ∃ x y, vs = [x, y] ∧ r x y H Q) op) (h' : OpS P w K (fun vs H Q => ∃ x y, vs = [x, y] ∧ r' x y H Q) op') (hm : lastMarks [o, o'] [b, d] = false) : PE X (.Compare a [o, o'] [b, d] pos) (tE P w K Tb (evChain op op' fa fb fc) E) :=
  PE.weak (pe_chain ho ho' (pe_fzE ha) (pe_fzE hb) (pe_fzE hd) hm) fun _ _ _ q => tChainE h h' q
theorem pt_chainE {a b d : Expr} {o o' : CmpOp} {pos : Pos} {r r' : R2} {op op' : List Iv.D → Option A} {fa fb fc : M R} (ho : OpR X (compareOp o) r) (ho' : OpR X (compareOp o') r') (ha : PE X a (tE P w K Tb fa E)) (hb : PE X b (tE P w K Tb fb E)) (hd : PE X d (tE P w K Tb fc E))
    (h : OpS P w K (fun vs H Q => ∃ x y, vs = [x, y] ∧ r x y H Q) op) (h' : OpS P w K (fun vs H Q => ∃ x y, vs = [x, y] ∧ r' x y H Q) op') (hm : lastMarks [o, o'] [b, d] = false) : PT X (.Compare a [o, o'] [b, d] pos) (tT P w K Tb (evB (evChain op op' fa fb fc)) E) :=
  PT.weak (pt_chain ho ho' (pe_fzE ha) (pe_fzE hb) (pe_fzE hd) hm) fun _ _ _ q => tChainE h h' (tE_bool q)
end
end Iv
set_option Elab.async false
set_option linter.all false
set_option maxRecDepth 100000
set_option maxHeartbeats 1000000
/-! Iv: x in a row; == with an empty tuple; powers; constants of a module; what is unpacked; name op= e. -/
namespace Iv
open PySem L2

def opInS : List D → Option A
  | [d, .list ds] => if SeqAt.shaped d && SeqAt.shaped (.list ds) then some (.d (.bool (ds.any fun z => PyData.eqv z d))) else none
  | [d, .tuple ds] => if SeqAt.shaped d && SeqAt.shaped (.tuple ds) then some (.d (.bool (ds.any fun z => PyData.eqv z d))) else none
  | _ => none
def opInA : List D → Option A
  | [x, .dict kvs] => opInD [x, .dict kvs]
  | ds => opInS ds
def negA : A → Option A
  | .d (.bool b) => some (.d (.bool (!b)))
  | _ => none
def opNotInA : List D → Option A
  | [x, .dict kvs] => opNotInD [x, .dict kvs]
  | ds => (opInS ds).bind negA
/-- ==, also of a tuple and the empty one -/
def opEqA : List D → Option A
  | [.tuple xs, .tuple []] => some (.d (.bool xs.isEmpty))
  | ds => opEq ds
def opPow : List D → Option A
  | [.int i, .int j] => if 0 ≤ j ∧ (Builtin.Int.intBits i : Int) * j ≤ 2 ^ 27 then some (.d (.int (i ^ j.toNat))) else none
  | _ => none
/-- a, b = data -/
def evBind (f : M R) (g : Bd) : M Fw := fun Γ => bnd (fz f Γ) fun r Γ => match datas [r] with
  | some [d] => match g d Γ with
    | some Γ => some (.ok (.nx, Γ))
    | none => none
  | _ => none
/-- name += e, of ints -/
def evAug (i : Nat) (f : M R) : M Fw := fun Γ => match slA Γ i with
  | some (.d (.int x)) => bnd (fz f Γ) fun r Γ => match datas [r] with
    | some [.int y] => bnd (setA i (.d (.int (x + y))) Γ) fun _ Γ => some (.ok (.nx, Γ))
    | _ => none
  | _ => none
section
variable {P : Program} {w : World} {K : PySem.W.Frag} {Tb : List (Addr × Str)} {c : Ctx Tb} {Γ Γ' Γ1 Γ2 : Env} {σ σ' : L2.St} {H H' H1 H2 : Hp} {E : XK} {X : Cx} {D : Ends}
def rInS (K : PySem.W.Frag) (f : Bool → Bool) : R2 := fun x y H Q => ∃ d e ds, Dp K H x d ∧ Dp K H y e ∧ (e = .list ds ∨ e = .tuple ds) ∧ SeqAt.shaped d = true ∧ SeqAt.shaped e = true ∧ Q (.bl (f (ds.any fun z => PyData.eqv z d))) H
theorem op_inS (hu : X.A.units + 66 < cLine) : OpR X (compareOp .In) (rInS X.K id) := by
  intro pins s σ H x y v u Q I rx ry ⟨d, e, ds, hd, he, hor, sd, se, q⟩
  obtain ⟨as, r1⟩ := Dp.reads I d x v hd rx
  obtain ⟨bs, r2⟩ := Dp.reads I e y u he ry
  rcases hor with rfl | rfl
  · exact SeqAt.in_list_reads r2 r1 (SeqAt.canLay_of_shaped se) (SeqAt.canLay_of_shaped sd) (PyProof.Rows.room_in_shaped sd (by omega)) ⟨.bl _, H, I, rfl, q⟩
  · exact SeqAt.in_tuple_reads r2 r1 (SeqAt.canLay_of_shaped se) (SeqAt.canLay_of_shaped sd) (PyProof.Rows.room_in_shaped sd (by omega)) ⟨.bl _, H, I, rfl, q⟩
theorem op_notInS (hu : X.A.units + 66 < cLine) : OpR X (compareOp .NotIn) (rInS X.K (!·)) := by
  intro pins s σ H x y v u Q I rx ry ⟨d, e, ds, hd, he, hor, sd, se, q⟩
  obtain ⟨as, r1⟩ := Dp.reads I d x v hd rx
  obtain ⟨bs, r2⟩ := Dp.reads I e y u he ry
  rcases hor with rfl | rfl
  · exact SeqAt.notIn_list_reads r2 r1 (SeqAt.canLay_of_shaped se) (SeqAt.canLay_of_shaped sd) (PyProof.Rows.room_in_shaped sd (by omega)) ⟨.bl _, H, I, rfl, q⟩
  · exact SeqAt.notIn_tuple_reads r2 r1 (SeqAt.canLay_of_shaped se) (SeqAt.canLay_of_shaped sd) (PyProof.Rows.room_in_shaped sd (by omega)) ⟨.bl _, H, I, rfl, q⟩
theorem shaped_lay {d : Iv.D} (h : SeqAt.shaped d = true) : d.canLay0 = true := SeqAt.canLay_of_shaped h
theorem ops_inS : OpS P w K (fun vs H Q => ∃ x y, vs = [x, y] ∧ rInS K id x y H Q) opInS := by
  intro H vs ds z Q r e k
  unfold opInS at e
  split at e
  all_goals
    first
      | cases e
      | (obtain ⟨x, y, rfl, hx, hy⟩ := r.two
         split at e
         · rename_i hs
           rw [Bool.and_eq_true] at hs
           cases e
           exact ⟨x, y, rfl, _, _, _, hx.dp (shaped_lay hs.1), hy.dp (shaped_lay hs.2), by first | exact .inl rfl | exact .inr rfl, hs.1, hs.2, k _ _ (Same.refl H) (.of (.bl _))⟩
         · cases e)
theorem ops_notInS : OpS P w K (fun vs H Q => ∃ x y, vs = [x, y] ∧ rInS K (!·) x y H Q) (fun ds => (opInS ds).bind negA) := by
  intro H vs ds z Q r e k
  obtain ⟨z', e1, e2⟩ := Option.bind_eq_some_iff.mp e
  unfold opInS at e1
  split at e1
  all_goals
    first
      | cases e1
      | (obtain ⟨x, y, rfl, hx, hy⟩ := r.two
         split at e1
         · rename_i hs
           rw [Bool.and_eq_true] at hs
           cases e1
           cases e2
           exact ⟨x, y, rfl, _, _, _, hx.dp (shaped_lay hs.1), hy.dp (shaped_lay hs.2), by first | exact .inl rfl | exact .inr rfl, hs.1, hs.2, k _ _ (Same.refl H) (.of (.bl _))⟩
         · cases e1)
def rInA (P : Program) (w : World) (K : PySem.W.Frag) (f : Bool → Bool) : R2 := fun x y H Q => rDIn P w K f x y H Q ∨ rInS K f x y H Q
theorem op_inA (hu : X.A.units + 66 < cLine) : OpR X (compareOp .In) (rInA X.prog X.w X.K id) := (op_dIn (by omega)).or (op_inS hu)
theorem op_notInA (hu : X.A.units + 66 < cLine) : OpR X (compareOp .NotIn) (rInA X.prog X.w X.K (!·)) := (op_dNotIn (by omega)).or (op_notInS hu)
theorem ops_inA : OpS P w K (fun vs H Q => ∃ x y, vs = [x, y] ∧ rInA P w K id x y H Q) opInA := by
  intro H vs ds z Q r e k
  unfold opInA at e
  split at e
  · obtain ⟨x, y, e1, e2⟩ := ops_dIn H vs _ z Q r e k
    exact ⟨x, y, e1, .inl e2⟩
  · obtain ⟨x, y, e1, e2⟩ := ops_inS H vs _ z Q r e k
    exact ⟨x, y, e1, .inr e2⟩
theorem ops_notInA : OpS P w K (fun vs H Q => ∃ x y, vs = [x, y] ∧ rInA P w K (!·) x y H Q) opNotInA := by
  intro H vs ds z Q r e k
  unfold opNotInA at e
  split at e
  · obtain ⟨x, y, e1, e2⟩ := ops_dNotIn H vs _ z Q r e k
    exact ⟨x, y, e1, .inl e2⟩
  · obtain ⟨x, y, e1, e2⟩ := ops_notInS H vs _ z Q r e k
    exact ⟨x, y, e1, .inr e2⟩
/-! ### == -/
def rEqNil (K : PySem.W.Frag) (f : Bool → Bool) : R2 := fun x y H Q => ∃ a b xs, x = .ref a ∧ y = .ref b ∧ SqT K H a xs ∧ SqT K H b [] ∧ Q (.bl (f xs.isEmpty)) H
theorem op_eqNil (hu : X.A.units + 64 < cLine) : OpR X (compareOp .Eq) (rEqNil X.K id) := by
  intro pins s σ H x y v u Q I rx ry ⟨a, b, xs, ex, ey, h1, h2, q⟩
  subst ex ey
  have : v = .ref a := rx
  subst this
  have : u = .ref b := ry
  subst this
  obtain ⟨its, r1, t1, _⟩ := I.tuple h1
  obtain ⟨its2, r2, t2, _⟩ := I.tuple h2
  cases r2
  refine PySem.SeqAt.rcIn_tuples (e := fun _ => true) t1 t2 (by omega) (fun j h1 h2 => absurd h2 (by simp)) ?_
  have e : ((List.range (min its.toArray.size ([] : List Value).toArray.size)).all (fun _ => true) && its.toArray.size == ([] : List Value).toArray.size) = xs.isEmpty := by
    cases r1 with
    | nil => rfl
    | cons => simp
  rw [e]
  exact ⟨.bl _, H, I, rfl, q⟩
theorem ops_eqNil : OpS P w K (fun vs H Q => ∃ x y, vs = [x, y] ∧ (rEqD K x y H Q ∨ rEqNil K id x y H Q)) opEqA := by
  intro H vs ds z Q r e k
  unfold opEqA at e
  split at e
  · obtain ⟨x, y, rfl, hx, hy⟩ := r.two
    cases e
    obtain ⟨a, xs, rfl, h1, r1⟩ := hx.tup
    obtain ⟨b, ys, rfl, h2, r2⟩ := hy.tup
    cases r2
    refine ⟨_, _, rfl, .inr ⟨a, b, xs, rfl, rfl, h1, h2, k _ _ (Same.refl H) ?_⟩⟩
    cases r1 with
    | nil => exact .of (.bl _)
    | cons => exact .of (.bl _)
  · obtain ⟨x, y, e1, e2⟩ := ops_eq H vs _ z Q r e k
    exact ⟨x, y, e1, .inl e2⟩
theorem op_eqA (hu : X.A.units + 64 < cLine) : OpR X (compareOp .Eq) (fun x y H Q => rEqD X.K x y H Q ∨ rEqNil X.K id x y H Q) := (op_eqD hu).or (op_eqNil hu)
/-! ### powers -/
theorem op_powW : OpR X (binaryOp .Pow) (rI (fun i j => 0 ≤ j ∧ (Builtin.Int.intBits i : Int) * j ≤ 2 ^ 27) fun i j => .int (i ^ j.toNat)) := opI fun _ _ _ _ _ _ _ hc q => PyProof.Rows.pow_int hc.1 hc.2 q
theorem ops_pow : OpS P w K (fun vs H Q => ∃ x y, vs = [x, y] ∧ rI (fun i j => 0 ≤ j ∧ (Builtin.Int.intBits i : Int) * j ≤ 2 ^ 27) (fun i j => .int (i ^ j.toNat)) x y H Q) opPow := ops_int2 fun ds z e => by
  unfold opPow at e
  split at e
  · rename_i i j
    split at e
    · rename_i h
      cases e
      exact ⟨i, j, _, rfl, h, rfl, rfl⟩
    · cases e
  · cases e
/-! ### a module's constant -/
theorem pe_constE {x : Str} {d : Iv.D} {v : V} {u : Value} {pos : Pos} (hg : Gl X x) (hm : X.mg x = some u) (hv : litV d = some v) (r : RelV v u) (hd : (x == ("__debug__" : Str)) = false) : PE X (.Name x pos) (tE P w K Tb (evCon d) E) := pe_con_of (pe_glob hg hm r hd) hv
/-! ### a, b = data -/
theorem ps_bindE {tg e : Expr} {pos : Pos} {f : M R} {js : List Nat} {g : Bd} (he : PE X e (tE P w K Tb f E)) (hg : PG X tg (tG P w K Tb js g)) (hs : swapsWithSole [tg] e pos.line X.env = pure false) (hw : swappedStores [tg] e X.env = pure none) (h1 : (assignEach [tg] X.env).map (·.2) = [assign tg X.env]) :
    PS X (.Assign [tg] e pos) (tS P w K Tb (evBind f g) E) := by
  refine PS.weak (ps_asg (pe_fzE he) hg hs hw h1) fun D σ H ⟨c, Γ, S, q⟩ => ⟨c, Γ, S, (Aft_bnd.mp q).imp fun r Γ1 er q v H1 T rr => ?_⟩
  obtain ⟨r, rfl⟩ := fz_of er
  split at q
  · rename_i d hd
    split at q
    · rename_i Γ2 eg
      have pr := datas_rep (.cons (FRep.of rr) .nil) hd
      obtain ⟨y, ey, py⟩ := pr.one
      cases ey
      exact ⟨c, Γ1, d, Γ2, T.rel, py, eg, fun σ' S' _ => (show SPost P w K c H D .nx Γ2 from q) σ' H1 S' T.pers⟩
    · exact q.elim
  · exact q.elim
/-! ### name += e -/
theorem ps_augE {i : Nat} {x : Str} {e : Expr} {f : M R} {pos pos' : Pos} (hN : X.N.Nodup) (hi : X.N[i]? = some x) (hx : Loc X.env.scope x) (hf : X.fn x = true ∨ X.env.scope.names.lookup x = some .local) (he : PE X e (tE P w K Tb f E)) : PS X (.AugAssign (.Name x pos') .Add e pos) (tS P w K Tb (evAug i f) E) := by
  refine PS.weak (ps_aug hN hi hx (pe_fzE he) ip_add hf) fun D σ H ⟨c, Γ, S, q⟩ => ?_
  unfold evAug at q
  split at q
  · rename_i z hz
    obtain ⟨fl, e0⟩ := slA_of hz
    obtain ⟨v, e1, r⟩ := S.rep i fl _ e0
    have ev := PR.inv_int (show PR P w K H v (.int z) from r)
    subst ev
    refine ⟨.int z, e1, c, Γ, S, (Aft_bnd.mp q).imp fun r Γ1 er q v H1 T rr => ?_⟩
    obtain ⟨r, rfl⟩ := fz_of er
    split at q
    · rename_i y hy
      have pr := datas_rep (.cons (FRep.of rr) .nil) hy
      obtain ⟨v', ey, py⟩ := pr.one
      cases ey
      have ev := py.inv_int
      subst ev
      have q := Aft_bnd.mp q
      unfold setA at q
      split at q
      · rename_i hc
        have q : SPost P w K c H D .nx (Γ1.set i (.c ⟨true⟩ (.d (.int (z + y))))) := q
        exact ⟨z, y, rfl, rfl, q _ _ (T.rel.set hc (x := .d (.int (z + y))) (.int _) fun z => nomatch z) T.pers⟩
      · exact q.elim
    · exact q.elim
  · exact q.elim
end
end Iv
set_option Elab.async false
set_option linter.all false
set_option maxRecDepth 100000
set_option maxHeartbeats 1000000
/-! Iv: exceptions of classes of the program over any base of the built-in ones: their making, their one field. -/
namespace Iv
open PySem PySem.W PySem.Calls PyProof.Rows PySem.HandSPX
/-- classes of the program, then the base's own line -/
def refsTo (bm : List Value) : List Value → Bool
  | .ref _ :: r => refsTo bm r
  | l => l == bm
theorem refsTo_ind {bm : List Value} (p : List Value → Prop) (h0 : p bm) (h1 : ∀ c r, p r → p (.ref c :: r)) : ∀ l, refsTo bm l = true → p l := by
  intro l
  induction l with
  | nil =>
    intro e
    have e : ([] : List Value) = bm := beq_iff_eq.mp (show (([] : List Value) == bm) = true from e)
    rw [e]; exact h0
  | cons a r ih =>
    intro e
    cases a with
    | ref c => exact h1 c r (ih e)
    | _ =>
      have e := beq_iff_eq.mp (show (_ == bm) = true from e)
      rw [e]; exact h0
theorem refsTo_has {bm : List Value} (X : String) : ∀ l, refsTo bm l = true → l.contains (.type X) = bm.contains (.type X) :=
  refsTo_ind (fun l => l.contains (.type X) = bm.contains (.type X)) rfl fun c r h => by
    rw [List.contains_cons, h, show ((Value.type X) == Value.ref c) = false from rfl, Bool.false_or]
theorem refsTo_pass {bm : List Value} (self : Value) (hb : PySem.refuseLoop self "__setattr__" bm = pure ()) : ∀ l, refsTo bm l = true → PySem.refuseLoop self "__setattr__" l = pure () :=
  refsTo_ind (fun l => PySem.refuseLoop self "__setattr__" l = pure ()) hb fun c r h => by rw [refuseLoop_ref]; exact h
theorem pass_LE (self : Value) : PySem.refuseLoop self "__setattr__" [.type "LookupError", .type "Exception", .type "BaseException", .type "object"] = pure () := by kernel_rfl
section
open Builtin Builtin.ObjectAttr
variable {prog : Program} {w : World} {A : Around} {E : Value → Shared → Prop} {R : Result → Shared → Prop} {hp : Heap} {g : Array GenState} {d : Drawn} {t : Nat} {os : OsState}
/-- the first field of a fresh exception -/
theorem first_field {K : Frag} {name : Str} {tk : Tok} {v : Value} {x C : Addr} {fv : Array Value} {cd : ClassData} (X : K.In hp) (hx : hp.get? x = some { cls := .ref C, data := .fields fv }) (hcd : clsIn K C = some cd) (ho : cd.mro.contains (.type "object") = true)
    (hp0 : refuseLoop (.ref x) "__setattr__" cd.mro = pure ()) (hh : cd.hasDict = true) (ha : findIn K (.ref C) name = some none)
    (hq : ∀ h' tk' dx, (∀ b o, b ≠ x → hp.get? b = some o → h'.get? b = some o) → hp.objs.size ≤ dx → dx ≠ x → h'.get? x = some { cls := .ref C, dict := some dx, data := .fields fv } →
      h'.Ns1 dx (fun y => if y = name then some v else none) → R (.ok (.ret .none)) ⟨h', g, d, tk', os⟩) :
    codeAny (model prog w) A (.call (.builtin "object.__setattr__") ⟨[.ref x, .str name tk, v], []⟩) R ⟨hp, g, d, t, os⟩ := by
  have I : InstAt hp x { cls := .ref C, data := .fields fv } C none := ⟨hx, rfl, rfl, trivial⟩
  have ne : cd.mro.isEmpty = false := by
    cases e : cd.mro with
    | nil => rw [e] at ho; cases ho
    | cons => rfl
  have xn : x ≠ hp.objs.size := Nat.ne_of_lt (Heap.lt_size hx)
  have sub : Looks (model prog w) hp (isInstance (.ref x) (.type "object")) true := I.type.andThen (looks_mroIn X (by unfold mroIn; rw [hcd, Option.bind_some, if_neg (by rw [ne]; decide), ho]))
  have SF := F.store_object
  refine codeAny_call_builtin SF.slot.plain SF.entry (@check_slot (model prog w) _ _ ⟨hp, g, d, t, os⟩ "object.__setattr__" "object" "__setattr__" (.ref x) [.str name tk, v] [] _ SF.kind SF.split sub (SF.args (.ref x) (.str name tk) v) ?_)
  have lm : Looks (model prog w) hp (mroOf (.ref C)) cd.mro := (looks_clsIn X hcd).andThen .now
  have lt : Looks (model prog w) hp (storeTaker? none) none := .now
  have lc : Looks (model prog w) hp (classData C) cd := looks_clsIn X hcd
  rw [osa_eq, refuse_eq]
  refine wpAny_bind (wpAny_bind (I.type.at (wpAny_bind (lm.at ?_))))
  rw [hp0]
  refine wpAny_pure (wpAny_bind (I.type.at (wpAny_bind ((looks_findIn X ha).at (wpAny_bind (lt.at ?_))))))
  show wpAny _ _ (storeInOwnDict (.ref x) (.ref C) (.str name tk) name v false) _ _ _
  obtain ⟨nm, bs, mro, ns, qn, hd, sn, sb, ab, col, del⟩ := cd
  dsimp only at hh
  subst hh
  unfold storeInOwnDict ownDictForStores
  repeat (first | with_reducible refine store_in_new ?_ ?_ | with_reducible refine wpAny_loadPart_at hx ?_ | with_reducible refine lc.at ?_ | wp_step)
  · exact ⟨_, #[], _, (Heap.get?_update_ne _ _ _ _ xn.symm).trans (Heap.get?_push_at rfl rfl), rfl, fun e he => absurd he (by simp), fun _ => rfl⟩
  · intro h' tk' hn' hs
    refine hq h' tk' hp.objs.size (fun b o hb ho => ?_) (Nat.le_refl _) xn.symm ?_ hn'
    · exact (hs.2 b (Nat.ne_of_lt (Heap.lt_size ho))).trans ((Heap.get?_update_ne _ _ _ _ hb).trans (Heap.get?_push_of_some _ ho))
    · exact (hs.2 x xn).trans (Heap.get?_update_self _ (Heap.get?_push_of_some _ hx) rfl)
end
theorem typ_LE : typeOf (.type "LookupError") = pure (.type "type") := by kernel_rfl
end Iv
namespace Iv
open PySem L2
/-- what the written part says of the class at C -/
structure XcC (K : PySem.W.Frag) (bmB : List Value) (newId : String) (C : Addr) : Prop where
  cls : ∃ nm q N bs bm sn sub ab col dd k0 k1 k2 k3 k5, K.lookup C = some (PySem.excClassObj nm q C N bs bm true sn sub ab col dd k0 k1 k2 k3 k5 newId) ∧ refsTo bmB bm = true
  sa : PySem.W.findIn K (.ref C) "__setattr__" = some (some (.builtin "object.__setattr__"))
  exC : PySem.W.subIn K (.ref C) (.type "BaseException") = some true
  tyC : PySem.W.typeIn K (.ref C) = some (.type "type")
/-- base.__init__(self, ..) -/
def tBi (K : PySem.W.Frag) (bmB : List Value) (newId : String) (ta : TA) : TE := fun σ H Q => ta σ H fun vs H1 => ∃ (a C : Addr) (ws : List V), vs = .ref a :: ws ∧ ws.length ≤ 1000 ∧ XcC K bmB newId C ∧ H1 a = some (exo a C none) ∧ Q .non H1
/-- self.f = e -/
def tFst (K : PySem.W.Frag) (bmB : List Value) (newId : String) (f : Str) (to te : TE) : TS := fun D σ H => te σ H fun y H1 => to σ H1 fun x H2 => ∃ a C : Addr, x = .ref a ∧ XcC K bmB newId C ∧ PySem.W.findIn K (.ref C) f = some none ∧
  H2 a = some (exo a C none) ∧ ∀ dx, H2 dx = none → dx ≠ a → D.nx σ (upd (upd H2 dx (exd dx [(f, y)])) a (exo a C (some dx)))
section
variable {X : Cx} {pins : List (Addr × Obj)} {σ : L2.St} {H : Hp} {s : Shared} {a C dx : Addr} {f : Str} {y : V} {u : Value} {E : Value → Shared → Prop} {A : Around} {bmB : List Value} {B newId initId : String}
theorem binit_ok {us : List Value} {Q : Value → Shared → Prop} (F : ExcBaseFacts B newId initId bmB) (T : XcC X.K bmB newId C) (I : Inv X pins σ H s) (e : H a = some (exo a C none)) (hl : us.length ≤ sizeLine) (h : ∀ s', Inv X pins σ H s' → Q .none s') :
    wpAny (model X.prog X.w) A (call (.builtin initId) (.ref a :: us)) Q E s := by
  obtain ⟨nm, q, N, bs, bm, sn, sub, ab, col, dd, k0, k1, k2, k3, k5, hC, hbm⟩ := T.cls
  obtain ⟨t1, ho⟩ := exo_at I.hok e
  obtain ⟨hp, g, d, t, os⟩ := s
  refine wpAny_call (PySem.HandSPX.init_base F (fun Y => refsTo_has Y bm hbm) (I.kIn _ _ hC) ho hl fun h' t2 k hx => ?_)
  have J := I.write (t' := t) (x := a) (e := a) (o := exo a C none) (by rw [e]; exact True.intro) (.inl rfl) k ⟨_, hx⟩ (exo_ok hx)
  have eu : upd H a (exo a C none) = H := funext fun b => by
    by_cases hb : b = a
    · rw [hb, upd_same, e]
    · rw [upd_ne hb]
  rw [eu] at J
  exact h _ J
theorem field_ok {Q : Unit → Shared → Prop} (hb0 : ∀ self : Value, PySem.refuseLoop self "__setattr__" bmB = pure ()) (hob : bmB.contains (.type "object") = true) (T : XcC X.K bmB newId C) (I : Inv X pins σ H s) (e : H a = some (exo a C none)) (hno : PySem.W.findIn X.K (.ref C) f = some none) (ry : RelV y u)
    (h : ∀ dx s', H dx = none → dx ≠ a → Inv X pins σ (upd (upd H dx (exd dx [(f, y)])) a (exo a C (some dx))) s' → Q () s') : wpAny (model X.prog X.w) A (setAttr (.ref a) f u) Q E s := by
  obtain ⟨nm, q, N, bs, bm, sn, sub, ab, col, dd, k0, k1, k2, k3, k5, hC, hbm⟩ := T.cls
  have hcl : PySem.W.clsIn X.K C = some { name := nm, bases := bs, mro := .ref C :: bm, ns := N, qualname := q, hasDict := true, slotNames := sn, subclasses := sub, abstract := ab, collection := col, hasDel := false } := by unfold PySem.W.clsIn; rw [hC] <;> rfl
  have hm : refsTo bmB (.ref C :: bm) = true := hbm
  obtain ⟨t1, ho⟩ := exo_at I.hok e
  obtain ⟨hp, g, d, t, os⟩ := s
  refine PySem.W.set_plain I.kIn (ox := { cls := .ref C, dict := none, data := .fields #[.ref t1, .none, .none, .none, .bool false, .none] }) (od := none) ⟨ho, rfl, rfl, trivial⟩ T.sa ?_
  refine first_field I.kIn ho hcl ((refsTo_has "object" _ hm).trans hob) (refsTo_pass _ (hb0 _) _ hm) rfl hno (fun h' tk' dx k dn dne hx hn => ?_)
  have hnd : H dx = none := I.hok.fresh dn
  have nd : ∀ {b : Addr} {o : Obj}, hp.get? b = some o → b ≠ dx := fun {b o} q => Nat.ne_of_lt (Nat.lt_of_lt_of_le (Heap.lt_size q) dn)
  have na : ∀ {b : Addr}, H b = none → b ≠ a := fun {b} n z => by
    rw [z, e] at n
    cases n
  have two : ∀ {b : Addr} {o : HO}, H b = some o → o ≠ exo a C none → upd (upd H dx (exd dx [(f, y)])) a (exo a C (some dx)) b = some o := fun {b o} q n => by
    rw [upd_ne (fun z => by rw [z, e] at q; exact n (Option.some.inj q).symm), upd_ne (ne_of_none q hnd)]
    exact q
  have Un1 : Un X.fs [] H (upd (upd H dx (exd dx [(f, y)])) a (exo a C (some dx))) hp h' :=
    ⟨fun b o q n _ _ => k b o (na n) q, fun b o q n _ _ => ⟨o.slots, k b o (na n) q⟩, fun b o q n _ => by rw [upd_ne (na n), upd_ne (nd q)]; exact n, fun b o q _ => by
      by_cases hb : b = a
      · exact ⟨_, by rw [hb]; exact hx⟩
      · exact ⟨o, k b o hb q⟩, fun b xs q => two q (Ne.symm exo_tup), fun b o v q => two q (Ne.symm exo_frz), fun b ps q => ⟨#[], by rw [two q (Ne.symm exo_tbl)]; simp⟩⟩
  refine h dx _ hnd dne (I.un (t' := tk') Un1 fun b o q => ?_)
  by_cases hb : b = a
  · subst hb
    rw [upd_same] at q
    cases q
    exact exo_ok hx
  · rw [upd_ne hb] at q
    by_cases hd : b = dx
    · subst hd
      rw [upd_same] at q
      cases q
      exact exd_ok hn (relO_put (fs := []) ry fun g => True.intro)
    · rw [upd_ne hd] at q
      refine (I.hok b o q).stay (fun c v hc z => k c v ?_ z) (fun c hc => two hc (Ne.symm exo_own)) (fun c xs hc => two hc (Ne.symm exo_tup))
      rcases hc with hc | hc
      · rw [hc]; exact hb
      · exact at_ne e hc exo_own
end
section
variable {X : Cx} {o e : Expr} {es : List Expr} {to te : TE} {ta : TA} {f : Str} {p p' p1 p2 pos : Pos} {bmB : List Value} {B newId initId : String}
theorem pe_leinit {pl : Sem Bool} (hg : Gl X "LookupError") (hm : X.mg "LookupError" = none) (vV : PySem.W.findCls X.K (.type "LookupError") (.type "type") "__init__" = some (.val (.builtin "LookupError.__init__"))) (ha : PA X (e :: es) ta)
    (hc : eval (.Call (.Attribute (.Name "LookupError" p1) "__init__" p2) (e :: es) [] pos) X.env = (do
      let ov ← eval (.Name "LookupError" p1) X.env
      standAt p2.atName
      let (f, first) ← holding [ov] (getMethod ov "__init__" pl)
      callWith pos f first (backTo pos (starEach (e :: es) X.env)) (backToKw pos (keywordEach [] X.env))))
    (he : starEach (e :: es) X.env = (false, eval e X.env) :: starEach es X.env) (hpl : (backTo pos (starEach es X.env)).any (·.1) = false) :
    PE X (.Call (.Attribute (.Name "LookupError" p1) "__init__" p2) (e :: es) [] pos) (tBi X.K [.type "LookupError", .type "Exception", .type "BaseException", .type "object"] "LookupError.__new__" ta) := by
  refine ⟨fun pins s σ H Q I h => ?_⟩
  refine PySem.W.methodCall_KW (ld_blt I hg hm PyProof.Rows.Boot.«LookupError» ?_ (by decide) (by decide)) hc
  obtain ⟨m, fr⟩ := I.fr
  refine PySem.W.method_type fr I.ok.mod.kin typ_LE (by decide +kernel) vV (by decide +kernel) ?_
  show wpAny _ _ (callWith pos (Value.builtin "LookupError.__init__") [] (backTo pos (starEach (e :: es) X.env)) []) _ _ _
  refine PyProof.Rows.callWith_method1 (thn (ha.run pos pins _ σ H _ (I.tok _) h) fun us s1 ⟨vs, H1, I1, r1, a, C, ws, ev, hl, T, ea, q⟩ => ?_) he hpl
  subst ev
  cases r1 with
  | @cons _ u0 _ ur ra rw' =>
    obtain rfl : u0 = Value.ref a := ra
    exact binit_ok PySem.F.excBase_LookupError T I1 ea (by rw [← Paired.length rw', sizeLine_eq]; omega) fun s' J => ⟨.non, H1, J, rfl, q⟩
theorem ps_field (hb0 : ∀ self : Value, PySem.refuseLoop self "__setattr__" bmB = pure ()) (hob : bmB.contains (.type "object") = true) (ho : PE X o to) (he : PE X e te) (hs : swapsWith e (some (.Attribute o f p')) pos.line X.env = pure false) : PS X (.Assign [.Attribute o f p'] e pos) (tFst X.K bmB newId f to te) := by
  refine ⟨fun pins s σ H D I h => ?_⟩
  refine plainObj_wpAny_Assign_Attribute (thn (he.run pins s σ H _ I h) fun v s1 ⟨y, H1, I1, r1, q1⟩ => thn (ho.run pins s1 σ H1 _ I1 q1) fun u s2 ⟨x, H2, I2, r2, a, C, ex, T, hno, ea, q⟩ => ?_) hs
  subst ex
  obtain rfl : u = Value.ref a := r2
  exact field_ok hb0 hob T I2 ea hno r1 fun dx s' n ne J => ⟨σ, _, J, q dx n ne⟩
/-- what C's own __init__(self, number) promises -/
def spLack (K : PySem.W.Frag) (bmB : List Value) (newId : String) : Sp := fun vs H Q _ => ∃ a C x, vs = [.ref a, x] ∧ XcC K bmB newId C ∧ PySem.W.findIn K (.ref C) "number" = some none ∧ H a = some (exo a C none) ∧
  ∀ dx, H dx = none → dx ≠ a → Q .non (upd (upd H dx (exd dx [(("number" : Str), x)])) a (exo a C (some dx)))
/-- C(e) -/
def tMkN (C : Addr) (ta : TA) : L2.St → Hp → XK → Prop := fun σ H Q => ta σ H fun vs H1 => ∃ v, vs = [v] ∧ ∀ d, H1 d = none → Q (.ref C) (some d) (upd H1 d (.xd [(("number" : Str), v)]))
theorem pmk_num {CX : CXT} {x : Str} {C fI : Addr} {k : Nat} {fd : FuncData} {ps : List Str} (F : ExcBaseFacts B newId initId bmB) (T : XcC X.K bmB newId C) (hno : PySem.W.findIn X.K (.ref C) "number" = some none) (kC : PySem.W.keepIn X.K (.ref C) = true)
    (iC : PySem.W.findIn X.K (.ref C) "__init__" = some (some (.ref fI))) (tI : PySem.W.typeIn X.K (.ref fI) = some (.type "function")) (F1 : FnOk X.prog X.w X.K X.mg X.base CX k fI fd ps (spLack X.K bmB newId)) (hr : Room (k + 1) X.A) (hb : Binds X.K fd ps []) (hx : Passes CX X (fun _ _ _ => False))
    (hg : Gl X x) (hm : X.mg x = some (.ref C)) (ha : PA X (e :: es) ta) (hdb : (x == ("__debug__" : Str)) = false) (he : starEach (e :: es) X.env = (false, eval e X.env) :: starEach es X.env) (hpl : (backTo pos (starEach es X.env)).any (·.1) = false) :
    PMk X (.Call (.Name x p) (e :: es) [] pos) (tMkN C ta) := by
  intro pins s σ H Q I h
  obtain ⟨nm, q, N, bs, bm, sn, sub, ab, col, dd, k0, k1, k2, k3, k5, hC, hbm⟩ := T.cls
  refine wpAny_Call_Name_kw (ld_glob I hg hm ?_ hdb)
  refine PySem.W.callWith_K (h₀ := X.base) I.ok.mod.kin kC (thn (ha.run pos pins s σ H _ I h) fun us s1 ⟨vs, H1, I1, r1, v, ev, q1⟩ => ⟨I1.kIn, ?_⟩) he hpl
  subst ev
  obtain ⟨u, rfl, ru⟩ := vals1 r1
  show wpAny _ _ (call (.ref C) [u]) _ _ _
  obtain ⟨hp, g, dr, tk, os⟩ := s1
  have hsz : hp.objs.size ≤ hp.objs.size + 1 := Nat.le_succ _
  have hn : H1 (hp.objs.size + 1) = none := I1.hok.fresh hsz
  generalize hA : hp.objs.size + 1 = a at hn
  have kk : ∀ b o, hp.get? b = some o → ((hp.push (PySem.W.kdv_tup [u])).push (PySem.HandSPX.excO C hp.objs.size)).get? b = some o := fun b o e => Heap.get?_push_of_some _ (Heap.get?_push_of_some _ e)
  have hget : ((hp.push (PySem.W.kdv_tup [u])).push (PySem.HandSPX.excO C hp.objs.size)).get? a = some (PySem.HandSPX.excO C hp.objs.size) := by rw [← hA]; heap_get
  have hsz' : hp.objs.size ≤ a := by rw [← hA]; exact hsz
  have I2 := I1.laid (t' := tk) (a := a) (o := exo a C none) (h' := (hp.push (PySem.W.kdv_tup [u])).push (PySem.HandSPX.excO C hp.objs.size)) kk hsz' (exo_ok hget)
  have r2 : Vals [V.ref a, v] [Value.ref a, u] := .cons rfl (.cons ru .nil)
  let Q2 : VK := fun w H2 => w = .non ∧ ∃ dx, H1 dx = none ∧ dx ≠ a ∧ H2 = upd (upd (upd H1 a (exo a C none)) dx (exd dx [(("number" : Str), v)])) a (exo a C (some dx))
  have hq : spLack X.K bmB newId [V.ref a, v] (upd H1 a (exo a C none)) Q2 (fun _ _ _ => False) := ⟨a, C, v, rfl, T, hno, upd_same, fun dx hd ne => ⟨rfl, dx, by rw [upd_ne ne] at hd; exact hd, ne, rfl⟩⟩
  have hl := F1.len _ _ _ _ hq
  subst hA
  refine wpAny_call (PySem.HandSPX.call_own F (fun Y => refsTo_has Y bm hbm) (I1.kIn _ _ hC) (PySem.W.looks_findIn I1.kIn iC) (fun self => PySem.W.bind_fn I1.kIn self tI) (by show 1 ≤ sizeLine; rw [sizeLine_eq]; decide)
    (codeAny_mono (F1.run _ X.stack _ _ ⟨[.ref (hp.objs.size + 1), u], []⟩ [.ref (hp.objs.size + 1), u] _ Q2 (fun _ _ _ => False) (hr.make C [u] []) (I2.env0.make C [u] []) (hb _ [.ref (hp.objs.size + 1), u] I2.kIn hl) r2 hq) fun r s' hq' => ?_))
  cases r with
  | error er => exact hx pins σ _ _ er s' I2 hq'
  | ok fl =>
    cases fl with
    | ret u' =>
      obtain ⟨w', H2, os2, bare2, un2, hok2, rv, ev, dx, hdx, ne, eH⟩ := hq'
      subst ev eH
      obtain ⟨h2, g2, d2, t2, os'⟩ := s'
      refine ⟨rv, mk_end (raises_own T.exC T.tyC) I1 hsz kk un2 hok2 os2 bare2 (d := dx) (fs := [(("number" : Str), v)]) upd_same (by rw [upd_ne ne, upd_same]) hdx ?_⟩
      have : upd (del (upd (upd (upd H1 (hp.objs.size + 1) (exo (hp.objs.size + 1) C none)) dx (exd dx [(("number" : Str), v)])) (hp.objs.size + 1) (exo (hp.objs.size + 1) C (some dx))) (hp.objs.size + 1)) dx (.xd [(("number" : Str), v)]) = upd H1 dx (.xd [(("number" : Str), v)]) := funext fun b => by
        by_cases hb : b = dx
        · rw [hb, upd_same, upd_same]
        · rw [upd_ne hb, upd_ne hb]
          by_cases hba : b = hp.objs.size + 1
          · rw [hba, del_same, hn]
          · rw [del_ne hba, upd_ne hba, upd_ne hb, upd_ne hba]
      rw [this]
      exact q1 dx hdx
    | next => exact False.elim hq'
    | brk => exact False.elim hq'
    | cont => exact False.elim hq'
end

/-! ### raise -/
def evRaise (x : Str) : M Fw := fun Γ => some (.error ⟨x, none⟩)
def evRaiseN (x : Str) (f : M R) : M Fw := fun Γ => bnd (fz f Γ) fun r Γ => match datas [r] with
  | some [d] => some (.error ⟨x, some d⟩)
  | _ => none
section
variable {X : Cx} {P : Program} {w : World} {K : PySem.W.Frag} {Tb : List (Addr × Str)} {E : XK}
theorem ps_raiseE {e : Expr} {x : Str} {pos : Pos} (hc : X.calm = true) (tk : Takes X fun cls d _ H => E cls d H) (he : PMk X e fun _ H Q => Q (.ref (He.ga K x)) none H) : PS X (.Raise (some e) none pos) (tS P w K Tb (evRaise x) E) :=
  PS.weak (L2.ps_raise hc tk he) fun D σ H ⟨c, Γ, S, q⟩ => (show XPost P w K c ⟨x, none⟩ E from q) _ _ H S.frame S.tabs ⟨rfl, trivial⟩
theorem ps_raiseNE {e : Expr} {x : Str} {pos : Pos} {f : M R} (hc : X.calm = true) (tk : Takes X fun cls d _ H => E cls d H) (he : PMk X e (tMkN (He.ga K x) (tA P w K Tb (evCons f evNil) E))) : PS X (.Raise (some e) none pos) (tS P w K Tb (evRaiseN x f) E) := by
  refine PS.weak (L2.ps_raise hc tk he) fun D σ H ⟨c, Γ, S, q⟩ => ⟨c, Γ, S, Aft_bnd.mpr ((Aft_bnd.mp q).imp fun r Γ1 er q => ?_)⟩
  obtain ⟨r, rfl⟩ := fz_of er
  intro vs H1 T fr
  split at q
  · rename_i d hd
    have pr := datas_rep fr hd
    obtain ⟨v, rfl, pv⟩ := pr.one
    refine ⟨v, rfl, fun dd hdd => ?_⟩
    have sm := same_upd (o := .xd [(("number" : Str), v)]) hdd
    exact (show XPost P w K c ⟨x, some d⟩ E from q) _ _ _ (fun b o h0 t n => sm b o (T.rel.frame b o h0 t n)) (T.rel.tabs.ext sm) ⟨rfl, dd, _, v, rfl, upd_same, rfl, PR.mono (Pers.same sm) pv⟩
  · exact q.elim
end
end Iv
set_option Elab.async false
set_option linter.all false
set_option maxRecDepth 100000
set_option maxHeartbeats 1000000
/-! Iv: x(lambda: body), where body ends in an exception that x makes a value of. -/
namespace Iv
open PySem L2 LamX

/-- containers out of sight -/
def hideC (Γ : Env) : Env := Γ.map fun s => match s with
  | .c f x => if x.isC then .un else .c f x
  | .un => .un
  | .fn n => .fn n
/-- h: what x makes of an exception -/
def evLam (h : Exc → Option Iv.D) (f : M R) : M R := fun Γ => match f (hideC Γ) with
  | some (.error x) => match h x with
    | some d => some (.ok (.a (.d d), Γ))
    | none => none
  | _ => none
section
variable {P : Program} {w : World} {K : PySem.W.Frag} {Tb : List (Addr × Str)} {c : Ctx Tb} {Γ Γ' Γ1 Γ2 : Env} {σ σ' : L2.St} {H H' H1 H2 : Hp} {E : XK} {X : Cx} {D : Ends}
theorem hideC_get {i : Nat} {f : Fl} {x : A} (h : (hideC Γ)[i]? = some (.c f x)) : Γ[i]? = some (.c f x) ∧ x.isC = false := by
  unfold hideC at h
  rw [List.getElem?_map] at h
  cases e : Γ[i]? with
  | none => rw [e] at h; cases h
  | some s =>
    rw [e] at h
    cases s with
    | un => cases h
    | fn => cases h
    | c g y =>
      have h : (if y.isC then Sl.un else Sl.c g y) = Sl.c f x := Option.some.inj h
      split at h
      · cases h
      · rename_i hy
        cases h
        exact ⟨rfl, by simpa using hy⟩
theorem hideC_fn {i : Nat} {n : Str} (h : (hideC Γ)[i]? = some (.fn n)) : Γ[i]? = some (.fn n) := by
  unfold hideC at h
  rw [List.getElem?_map] at h
  cases e : Γ[i]? with
  | none => rw [e] at h; cases h
  | some s =>
    rw [e] at h
    cases s with
    | un => cases h
    | fn m => cases h; rfl
    | c g y =>
      have h : (if y.isC then Sl.un else Sl.c g y) = Sl.fn n := Option.some.inj h
      split at h <;> cases h
/-- a state of its own for the lambda's body: all that stands is kept -/
theorem SRel.hide (S : SRel P w K c Γ σ H) : SRel P w K (Tb := Tb) ⟨H, fun _ => none⟩ (hideC Γ) σ H := by
  have no : ∀ {i : Nat} {f : Fl} {x : A}, (hideC Γ)[i]? = some (.c f x) → x.isC = true → False := fun h hx => by rw [(hideC_get h).2] at hx; cases hx
  refine ⟨by rw [← S.len]; simp [hideC], fun i f x h => S.rep i f x (hideC_get h).1, fun i j a ⟨f, x, e, hx, _⟩ => (no e hx).elim, fun b o h _ _ => h, S.tabs, fun i b h => (nomatch h), fun i a f x e hx => (no e hx).elim, fun i a f x e hx => (no e hx).elim, fun i n e => S.fns i n (hideC_fn e)⟩
/-- what x does with the lambda: its exception becomes a value -/
def TTmet (P : Program) (w : World) (K : PySem.W.Frag) (h : Exc → Option Iv.D) : (XK → Hp → VK → Prop) → Hp → VK → Prop := fun tl H Q => ∀ Q0 : VK,
  tl (fun cls d H' => ∃ x dr, XRep P w K x cls d H' ∧ h x = some dr ∧ ∀ v H'', Same H' H'' → PR P w K H'' v dr → Q v H'') H Q0
theorem Pers.extN (h : ExtN H H') : Pers H H' := ⟨fun a xs e => h a _ e fun _ z => (nomatch z), fun a o u e => h a _ e fun _ z => (nomatch z)⟩
/-- the tables of Tb alone are those that may grow -/
theorem tLamE {h : Exc → Option Iv.D} {f : M R} {Q : VK} (q : tE P w K Tb (evLam h f) E σ H Q) (ext : ∀ {H H1 : Hp}, ExtN H H1 → True) :
    ∃ (c : Ctx Tb) (Γ : Env), SRel P w K c Γ σ H ∧ ∃ x d, f (hideC Γ) = some (.error x) ∧ h x = some d ∧ ∀ v H', Stp P w K c Γ σ H Γ H' → PR P w K H' v d → Q v H' := by
  obtain ⟨c, Γ, S, q⟩ := q
  refine ⟨c, Γ, S, ?_⟩
  unfold evLam at q
  split at q
  · rename_i x e
    split at q
    · rename_i d eh
      exact ⟨x, d, e, eh, fun v H' T pv => (show ∀ v H', _ from q) v H' T ⟨pv, fun z => nomatch z⟩⟩
    · exact q.elim
  · exact q.elim
/-- all but the tables of Tb is kept, the tables are tables: a step -/
theorem Stp.ext (S : SRel P w K c Γ σ H) (k : ∀ b o, H b = some o → nT Tb b → H' b = some o) (pe : Pers H H') (tb : Tabs Tb H') (back : ∀ p, H' p = none → H p = none) : Stp P w K c Γ σ H Γ H' := by
  refine ⟨⟨S.len, fun i f x e => ?_, S.apart, fun b o q t z => k b o (S.frame b o q t z) t, tb, fun i b q z => S.there i b q (back b z), S.own, S.bor, S.fns⟩, fun b o q t _ => k b o q t, pe, back, fun _ _ h => h, fun _ f x h => ⟨f, x, h⟩⟩
  obtain ⟨v, e1, r⟩ := S.rep i f x e
  refine ⟨v, e1, ?_⟩
  cases hx : x.isC with
  | false => cases x with
    | d x => exact PR.mono pe r
    | _ => cases hx
  | true => exact r.keep pe fun a u ea q => k a u q (S.nTc ⟨f, x, e, hx, by rw [e1, ea]⟩)
/-- behind the making of a lambda: all as it was, or one more code object in the table at P -/
def LamH (H H1 : Hp) (P : Addr) (q : Str) : Prop := H1 = H ∨ ∃ (ps more : Array Value) (c : Addr), H P = some (.tbl ps) ∧ H c = none ∧ H1 = upd (upd H P (.tbl (ps ++ more))) c (CodeO c q)
theorem LamH.keep {P : Addr} {q : Str} (h : LamH H H1 P q) {b : Addr} {o : HO} (e : H b = some o) (n : b ≠ P) : H1 b = some o := by
  rcases h with rfl | ⟨ps, more, c, hP, hc, rfl⟩
  · exact e
  · rw [upd_ne (ne_of_none e hc), upd_ne n]; exact e
theorem LamH.ext {P : Addr} {q : Str} (h : LamH H H1 P q) : ExtN H H1 := fun b o e n => by
  rcases h with rfl | ⟨ps, more, c, hP, hc, rfl⟩
  · exact e
  · exact LamH.keep (.inr ⟨ps, more, c, hP, hc, rfl⟩) e fun z => by subst z; rw [hP] at e; exact n ps (Option.some.inj e).symm
theorem LamH.back {P : Addr} {q : Str} (h : LamH H H1 P q) {b : Addr} (e : H1 b = none) : H b = none := by
  rcases h with rfl | ⟨ps, more, c, hP, hc, rfl⟩
  · exact e
  · by_cases hb : b = c
    · rw [hb]; exact hc
    · rw [upd_ne hb] at e
      by_cases hp : b = P
      · rw [hp, upd_same] at e; cases e
      · rw [upd_ne hp] at e; exact e
theorem lam_make3 {pins : List (Addr × Obj)} {s : Shared} {T : List (Addr × Str)} {cc PP : Addr} {params : Arguments} {body : Expr} {scope : Scope} {pos : Pos} {EE : Value → Shared → Prop} {Q : Value → Shared → Prop} (I : Inv X pins σ H s) (TB : TabB X.base X.mg cc PP) (hcode : X.env.code = .ref cc)
    (hm : (PP, X.env.qual ++ "<lambda>") ∈ T) (hu : ∀ p ∈ T, p.1 = PP → p.2 = X.env.qual ++ "<lambda>") (hT : Tabs T H) (hdef : defaultsOf params X.env = ([], [])) (hfree : ∀ y ∈ scope.names, y.2 = .free → ∃ c, X.env.cells.lookup y.1 = some c)
    (h : ∀ (f c' : Addr) (pm ctv : Value) (H1 : Hp) (s' : Shared), Inv X pins σ H1 s' → LamH H H1 PP (X.env.qual ++ "<lambda>") → Tabs T H1 →
      s'.heap.get? f = some (PySem.W.kla_obj "<lambda>" (X.env.qual ++ "<lambda>") params body scope (L2.cloFrom X.env.cells scope.names []) pm c' ctv) → H1 f = none → f ∉ frs X.stack → H1 c' = some (CodeO c' (X.env.qual ++ "<lambda>")) → Q (.ref f) s') :
    wpAny (model X.prog X.w) X.A (eval (.Lambda params body scope pos) X.env) Q EE s := by
  obtain ⟨ps, hP, ht, ha⟩ := hT _ hm
  have hP : H PP = some (.tbl ps) := hP
  have out : ∀ f, s.heap.objs.size ≤ f → f ∉ frs X.stack := fun f hf z => (List.mem_cons.mp (I.stkSub _ z)).elim (fun e => by
    have := I.lt
    rw [← e] at this
    exact absurd hf (Nat.not_le_of_gt this)) fun e => I.nofs hf e
  have gP : s.heap.get? PP = some { cls := .none, data := .fields ps } := I.hok PP _ hP
  refine PySem.W.kla_eval hdef ?_
  cases hc : codeAmong pos ps.toList with
  | some cv =>
    obtain ⟨c', rfl, hco⟩ := ha pos cv hc
    refine PySem.W.kla_makeFunctionHit (mg := X.mg) (c := cc) (P := PP) (ps := ps) (closure_ok hfree) I.ok.glob (I.mod.glob.keeps I.bk) hcode (TB.code.keeps I.bk) gP ht hc (TB.bm.keeps I.bk) fun ctv h' tk hx hsz => ?_
    have J : L2.Inv X pins σ H { s with heap := h'.push (PySem.W.kla_obj "<lambda>" (X.env.qual ++ "<lambda>") params body scope (L2.cloFrom X.env.cells scope.names []) ((X.mg "__name__").getD .none) c' ctv), toks := tk } := I.kept fun b o e => Heap.get?_push_of_some _ (hx b o e)
    exact h h'.objs.size c' _ ctv H _ J (.inl rfl) hT (Heap.get?_push_size _ rfl) (I.hok.fresh hsz) (out _ hsz) hco
  | none =>
    refine PySem.W.kla_makeFunction (mg := X.mg) (c := cc) (P := PP) (ps := ps) (closure_ok hfree) I.ok.glob (I.mod.glob.keeps I.bk) hcode (TB.code.keeps I.bk) gP ht hc TB.gP (TB.bm.keeps I.bk) fun c' ctv h' tk hx hge hlt hrec htb => ?_
    obtain ⟨c2, oc, vs, t, e2, hoc, hd, hv⟩ := hrec
    cases e2
    have hsz : s.heap.objs.size ≤ h'.objs.size := Nat.le_trans hge (Nat.le_of_lt hlt)
    have nC : H c' = none := I.hok.fresh hge
    have J := inv_table (t' := tk) (more := #[rawInt pos.line, rawInt pos.col, .ref c']) (h' := h'.push (PySem.W.kla_obj "<lambda>" (X.env.qual ++ "<lambda>") params body scope (L2.cloFrom X.env.cells scope.names []) ((X.mg "__name__").getD .none) c' ctv)) I hP
      (fun b o hb e => Heap.get?_push_of_some _ (hx b o hb e)) (Heap.get?_push_of_some _ htb) hge ⟨oc, vs, t, Heap.get?_push_of_some _ hoc, hd, hv⟩
    have L : LamH H (upd (upd H PP (.tbl (ps ++ #[rawInt pos.line, rawInt pos.col, .ref c']))) c' (CodeO c' (X.env.qual ++ "<lambda>"))) PP (X.env.qual ++ "<lambda>") := .inr ⟨ps, _, c', hP, nC, rfl⟩
    refine h h'.objs.size c' _ ctv _ _ J L (fun p hp => ?_) (Heap.get?_push_size _ rfl) ?_ (out _ hsz) upd_same
    · by_cases hb : p.1 = PP
      · rw [hu p hp hb, hb]
        have eL : (ps ++ #[rawInt pos.line, rawInt pos.col, .ref c']).toList = ps.toList ++ [rawInt pos.line, rawInt pos.col, .ref c'] := by simp
        refine ⟨_, by rw [upd_ne (ne_of_none hP nC), upd_same], by rw [eL]; exact PySem.TriplesOk_snoc _ _ _ _ ht, fun p' cv hcv => ?_⟩
        rw [eL] at hcv
        rcases among_app _ ht hcv with z | z
        · obtain ⟨c0, e1, e2⟩ := ha p' cv z
          exact ⟨c0, e1, L.ext _ _ e2 codeO_ne⟩
        · exact ⟨c', z, upd_same⟩
      · obtain ⟨ps', a1, a2, a3⟩ := hT p hp
        refine ⟨ps', L.keep a1 hb, a2, fun p' cv hcv => ?_⟩
        obtain ⟨c0, e1, e2⟩ := a3 p' cv hcv
        exact ⟨c0, e1, L.ext _ _ e2 codeO_ne⟩
    · rw [upd_ne (Nat.ne_of_gt hlt), upd_ne (Nat.ne_of_gt (Nat.lt_of_lt_of_le (Heap.lt_size gP) hsz))]
      exact I.hok.fresh hsz
/-- x(lambda: body) -/
theorem pe_lamE {h : Exc → Option Iv.D} {x a : Str} {g cc PP : Addr} {k : Nat} {pg : Arguments} {bg : List Stmt} {sg : Scope} {dV kV doc pm cdv ct oc : Value} {an od : Option Addr} {osl : Array (Option Value)} {Ng : List Str}
    {params : Arguments} {body : Expr} {scope : Scope} {f : M R} {p lpos pos : Pos} (hg : Gl X x) (hm : X.mg x = some (.ref g)) (hk : PySem.W.keepIn X.K (.ref g) = true)
    (lk : X.K.lookup g = some ⟨oc, od, .func (PySem.W.fnOf x x pg bg sg dV kV doc pm an cdv ct), osl⟩) (hcg : PySem.W.codeIn X.K cdv x = true) (hb : L2.Binds X.K (PySem.W.fnOf x x pg bg sg dV kV doc pm an cdv ct) [a] []) (Sg : FnScope Ng [a] sg) (hNg : Ng[0]? = some a) (hva : Vis sg a)
    (hG : GivesTo X Ng x sg g cdv bg a (X.env.qual ++ "<lambda>") (TTmet X.prog X.w X.K h))
    (TB : TabB X.base X.mg cc PP) (hcode : X.env.code = .ref cc) (hmT : (PP, X.env.qual ++ "<lambda>") ∈ Tb) (hu : ∀ p ∈ Tb, p.1 = PP → p.2 = X.env.qual ++ "<lambda>") (hr : Room (k + 2) X.A) (L : LamS X.env.scope scope) (hdef : defaultsOf params X.env = ([], []))
    (hbind : ∀ (q : Str) (cl : List (Str × Addr)) (pm cv ctv : Value), bindArgs (PySem.W.kla_fn "<lambda>" q params body scope cl pm cv ctv) ⟨[], []⟩ = pure [])
    (hbody : ∀ (A : Around) (outer : List PySem.Env) (s : Shared) (H : Hp) (E : XK) (f' c' : Addr), Room k (A.deeper (lamEnv X scope s.heap.objs.size f' c')) → PE (lamCx X A outer s H E scope f' c') body (tE X.prog X.w X.K Tb f E))
    (hdb : (x == ("__debug__" : Str)) = false) (hd : (a == ("__debug__" : Str)) = false) (hcd : (a == ("__classdict__" : Str)) = false) :
    PE X (.Call (.Name x p) [.Lambda params body scope lpos] [] pos) (tE X.prog X.w X.K Tb (evLam h f) E) := by
  refine ⟨fun pins s σ H Q I q => ?_⟩
  obtain ⟨c, Γ, S, ex, dr, ef, eh, q⟩ := tLamE q fun _ => trivial
  refine wpAny_Call_Name_kw (ld_glob I hg hm ?_ hdb)
  refine PySem.W.callWith_K (h₀ := X.base) I.ok.mod.kin hk ?_ (by rfl) (by rfl)
  show wpAny _ _ (spliced ((false, eval (.Lambda params body scope lpos) X.env) :: backTo pos (starEach [] X.env))) _ _ s
  refine Calls.spliced_cons (lam_make3 I TB hcode hmT hu S.tabs hdef (L.has I.ok) fun f' c' pm' ctv H1 s' I1 lh T1 hf hfn hfr hco => ?_)
  refine Calls.spliced_nil ⟨I1.kIn, ?_⟩
  -- the step of the making
  have ne : ∀ {b}, nT Tb b → b ≠ PP := fun {b} t z => by subst z; exact t _ hmT
  have S1 : Stp X.prog X.w X.K c Γ σ H Γ H1 := Stp.ext S (fun b o e t => lh.keep e (ne t)) (Pers.extN lh.ext) T1 fun p e => lh.back e
  have hid := S1.rel.hide
  have want : TTmet X.prog X.w X.K h (fun E H' Q' => tE X.prog X.w X.K Tb f E σ H' Q') H1 Q := by
    refine fun Q0 => ⟨⟨H1, fun _ => none⟩, hideC Γ, hid, ?_⟩
    rw [ef]
    intro cls d H' fr tb xr
    refine ⟨ex, dr, xr, eh, fun v H'' sm pv => q v H'' (S1.trans (Stp.ext S1.rel (fun b o e t => sm _ _ (fr b o e t fun i => (nofun))) ⟨fun a xs e => sm _ _ (fr a _ e (nT_of T1 e fun _ z => (nomatch z)) fun i => (nofun)), fun a o u e => sm _ _ (fr a _ e (nT_of T1 e fun _ z => (nomatch z)) fun i => (nofun))⟩ (tb.ext sm) fun p e => ?_)) pv⟩
    cases e1 : H1 p with
    | none => rfl
    | some o =>
      by_cases t : nT Tb p
      · rw [sm _ _ (fr p o e1 t fun i => (nofun))] at e; cases e
      · exact absurd (nT_fresh (tb.ext sm) e) t
  have rc : codeAny (model X.prog X.w) X.A (.call (.ref g) ⟨[.ref f'], []⟩) (CR C8.CX0 X.stack X.prog X.w H1 s' Q C8.E0) s' := by
    refine run_ofS (N := Ng) (ps := [a]) (us := [.ref f']) (vs := [.ref f']) lk hcg Sg hr I1.env0 (hb s' [.ref f'] I1.kIn rfl) (.cons rfl .nil) rfl fun hr' => ?_
    obtain ⟨t', ht', hq'⟩ := hG f' c' s' H1 Q (fun E H' Q' => tE X.prog X.w X.K Tb f E σ H' Q') (fun W pn xe E p1 p2 tk hW => pe_act (i := 0) (tb := fun σ H Q => tE X.prog X.w X.K Tb f E σ H Q) I1 L hf hfn hfr (hbind _ _ _ _ _) tk hW hr' (fun A outer s H hr2 => hbody A outer s H E f' c' hr2) hNg hva hd hcd) hco want
    exact ⟨t', ht'.nox, hq'⟩
  refine wpAny_call (codeAny_mono rc fun r s2 hq => ?_)
  cases r with
  | error e => exact (show False from hq).elim
  | ok fl =>
    cases fl with
    | ret u => exact I1.after hq
    | next => exact False.elim hq
    | brk => exact False.elim hq
    | cont => exact False.elim hq
/-- clauses: class, what is told -/
def hdl : List (Str × Str) → List (Pos × Nat × Pos × Pos × Pos) → List ExceptHandler
  | (e, r) :: hs, (p1, j, p2, p3, p4) :: ps => .ExceptHandler (some (.Name e p1)) none [.Return (some (.Constant (.str r) j p2)) p3] p4 :: hdl hs ps
  | _, _ => []
/-- the first clause that takes the class x, by the table ex -/
def firstR (ex : Str → Str → Bool) (x : Str) : List (Str × Str) → Option Str
  | [] => none
  | (e, r) :: hs => if ex x e then some r else firstR ex x hs
def hMet (ex : Str → Str → Bool) (known : List Str) (hs : List (Str × Str)) : Exc → Option Iv.D := fun x => if known.contains x.cls then (firstR ex x.cls hs).map .str else none
theorem met_gives {Ng : List Str} {x a q : Str} {sg : Scope} {g : Addr} {cdg : Value} {ex : Str → Str → Bool} {known : List Str} {hs : List (Str × Str)} {ps : List (Pos × Nat × Pos × Pos × Pos)} {told : Str} {j kt : Nat} {p0 p1 p2 pt p3 p8 : Pos} (hlen : ps.length = hs.length) (hne : hs ≠ [])
    (hge : ∀ e ∈ hs, sg.names.lookup e.1 = some .globalImplicit ∧ (e.1 == ("__debug__" : Str)) = false ∧ X.mg e.1 = some (.ref (He.ga X.K e.1))) (hex : ∀ y ∈ known, ∀ e ∈ hs, PySem.W.exmOne X.K (.ref (He.ga X.K y)) (.ref (He.ga X.K e.1)) = some (ex y e.1))
    (h0 : ∀ f : Addr, (L2.start Ng [V.ref f])[0]? = some (some (V.ref f))) :
    GivesTo X Ng x sg g cdg [.Try [.Return (some (.Tuple [.Constant (.str told) j p0, .Call (.Name a p1) [] [] p2] kt pt)) p3] (hdl hs ps) [] [] p8] a q (TTmet X.prog X.w X.K (hMet ex known hs)) := by
  intro f c' s H Q tl act hc h
  let Y := (cxOf C8.CX0 X.prog X.w X.K X.mg X.base Ng x sg g cdg X.A X.stack s H C8.E0).nox
  have hds : ∀ {hs : List (Str × Str)} {ps : List (Pos × Nat × Pos × Pos × Pos)}, ps.length = hs.length → (∀ e ∈ hs, sg.names.lookup e.1 = some .globalImplicit ∧ (e.1 == ("__debug__" : Str)) = false ∧ X.mg e.1 = some (.ref (He.ga X.K e.1))) →
      HdsOk Y (hdl hs ps) (hs.map fun e => (.ref (He.ga X.K e.1), fun _ _ _ => tRet (tC (.str e.2)))) := by
    intro hs
    induction hs with
    | nil => intro ps _ _; cases ps <;> exact .nil
    | cons e hs ih =>
      intro ps hl hg
      cases ps with
      | nil => cases hl
      | cons p ps =>
        obtain ⟨e, r⟩ := e
        obtain ⟨q1, jj, q2, q3, q4⟩ := p
        obtain ⟨g1, g2, g3⟩ := hg (e, r) (List.mem_cons_self ..)
        exact .cons ⟨g1, g2, .inl g3⟩ (fun a oe cls d pn _ _ => pss_one (ps_ret pe_str)) (ih (by simpa using hl) fun e' he' => hg e' (List.mem_cons_of_mem _ he'))
  obtain ⟨h₀, hrest, eh⟩ : ∃ h₀ hrest, hdl hs ps = h₀ :: hrest := by
    cases hs with
    | nil => exact absurd rfl hne
    | cons e hs => cases ps with
      | nil => cases hlen
      | cons p ps => exact ⟨_, _, rfl⟩
  have hd := hds hlen hge
  rw [eh] at hd ⊢
  refine ⟨_, pss_one (ps_try_many (X := Y) (tb := fun W D σ H => ∃ Ech : XK, (∀ cls d σ' H', Ech cls d H' → W cls d σ' H') ∧ σ[0]? = some (some (.ref f)) ∧ H c' = some (CodeO c' q) ∧ ∀ Q0, tl Ech H Q0) rfl rfl L2.takes0 (fun W pn xe tk _ => ?_) hd), ?_⟩
  · refine ⟨fun pins s' σ H' D I h' => ?_⟩
    obtain ⟨Ech, hW, h1, h2, h3⟩ := h'
    have hp := act W pn xe Ech p1 p2 tk hW
    exact (pss_one (ps_ret (pos := p3) (pe_tup (pa_cons pe_str (pa_cons hp pa_nil))))).run pins s' σ H' D I ⟨h1, h2, h3 _⟩
  · refine ⟨fun cls d H' => ∃ x dr, XRep X.prog X.w X.K x cls d H' ∧ hMet ex known hs x = some dr ∧ ∀ v H'', Same H' H'' → PR X.prog X.w X.K H'' v dr → Q v H'', fun cls d σ' H' ⟨y, dr, xr, ey, k⟩ => ?_, h0 f, hc, h⟩
    unfold hMet at ey
    split at ey
    · rename_i hk
      have hk : y.cls ∈ known := by simpa using hk
      obtain ⟨rr, er, edr⟩ := Option.map_eq_some_iff.mp ey
      obtain ⟨rfl, _⟩ := xr
      have hex' := hex y.cls hk
      have many : ∀ {l : List (Str × Str)}, (∀ e ∈ l, e ∈ hs) → firstR ex y.cls l = some rr → wMany X.K (fun _ _ _ _ => False) { nx := fun _ H' => Q .non H', rt := Q } (l.map fun e => ((.ref (He.ga X.K e.1) : Value), fun _ _ _ => tRet (tC (.str e.2)))) (.ref (He.ga X.K y.cls)) d σ' H' := by
        intro l
        induction l with
        | nil => intro _ z; cases z
        | cons e l ih =>
          intro sub z
          obtain ⟨e, r⟩ := e
          refine ⟨_, hex' _ (sub _ (List.mem_cons_self ..)), fun hb a _ => ?_, fun hb => ih (fun e' he' => sub e' (List.mem_cons_of_mem _ he')) ?_⟩
          · have z : (if ex y.cls e then some r else firstR ex y.cls l) = some rr := z
            rw [if_pos hb] at z
            cases z
            exact k _ _ (Same.refl _) (by rw [← edr]; exact .str _)
          · have z : (if ex y.cls e then some r else firstR ex y.cls l) = some rr := z
            rw [if_neg (by rw [show ex y.cls e = false from hb]; decide)] at z
            exact z
      exact many (fun e he => he) er
    · cases ey
end
end Iv
set_option Elab.async false
set_option linter.all false
set_option maxRecDepth 100000
set_option maxHeartbeats 1000000
/-! Iv: repr of data. -/
namespace Iv
open PySem L2

def isD0 : D → Bool
  | .dict [] => true
  | _ => false
def opRepr : List D → Option A
  | [d] => if d.showable && (decide (d.shown.length ≤ lim) && (decide (d.depth ≤ 32) && ((d.canLay0 && !d.hasDict) || isD0 d))) then some (.d (.str d.shown)) else none
  | _ => none
section
variable {P : Program} {w : World} {K : PySem.W.Frag} {H H' : Hp} {E : XK} {X : Cx} {pins : List (Addr × Obj)} {s : Shared} {σ : L2.St}
def rRepr (P : Program) (w : World) (K : PySem.W.Frag) : List V → Hp → VK → Prop := fun xs H Q => ∃ x d, xs = [x] ∧ RRd P w K H x d ∧ d.showable = true ∧ d.shown.length ≤ sizeLine ∧ d.depth ≤ 32 ∧ ((d.canLay0 = true ∧ d.hasDict = false) ∨ d = .dict []) ∧ Q (.str d.shown) H
theorem RRd.readsR {v : V} {u : Value} {d : Iv.D} (I : Inv X pins σ H s) (h : RRd X.prog X.w X.K H v d) (r : RelV v u) (hd : (d.canLay0 = true ∧ d.hasDict = false) ∨ d = .dict []) : ∃ as, Reads s.heap u d as ∧ (d.hasDict = true → sysModules ∉ as) := by
  rcases hd with ⟨h1, h2⟩ | rfl
  · obtain ⟨as, hr⟩ := Dp.reads I d v u (h.dp h1) r
    exact ⟨as, hr, fun z => by rw [h2] at z; cases z⟩
  · obtain ⟨a, uo, rfl, hr, dv⟩ := h.dct
    have : u = .ref a := r
    subst this
    obtain ⟨hm, o, es, ep, e1, e2, e3, e4, _⟩ := dv_raw I hr dv
    have hes : es = #[] := Array.size_eq_zero_iff.mp e4
    subst hes
    exact ⟨_, .dict e1 e2.1 e3 .nil .nil, fun _ z => by simp at z; rw [← z] at hm; simp at hm⟩
theorem call_reprE (hg : X.A.guards = some []) (hu : X.A.units + 64 < cLine) : CallR X (.builtin "repr") (rRepr X.prog X.w X.K) := by
  intro pins s σ H xs us Q I r ⟨x, d, ex, hx, hs, hz, hdp, hd, q⟩
  subst ex
  obtain ⟨u, rfl, ru⟩ := vals1 r
  obtain ⟨as, hr, hsm⟩ := RRd.readsR I hx ru hd
  have big : ∀ {a : Addr}, Reads s.heap (.ref a) d as → wpAny (model X.prog X.w) X.A (call (.builtin "repr") [.ref a]) (EP X pins σ Q) X.xe s := fun r => repr_of_reads' r hs hsm hg (by omega) (fun _ _ e => e) (fun h' u tk k => ⟨.str _, H, I.kept k, ⟨_, rfl⟩, q⟩) hz
  cases hr with
  | none => exact PySem.P.repr_of_none ⟨.str _, H, I.tok _, ⟨_, rfl⟩, q⟩
  | bool b => exact PySem.P.repr_of_bool ⟨.str _, H, I.tok _, ⟨_, rfl⟩, q⟩
  | int i t => exact PySem.P.repr_of_int (by simpa [PyData.showable] using hs) ⟨.str _, H, I.tok _, ⟨_, rfl⟩, q⟩
  | str x t => exact PySem.P.repr_of_str ⟨.str _, H, I.tok _, ⟨_, rfl⟩, q⟩ (by simpa only [PyData.shown] using hz)
  | list h1 h2 h3 h4 => exact big (.list h1 h2 h3 h4)
  | tuple h1 h2 h3 h4 => exact big (.tuple h1 h2 h3 h4)
  | dict h1 h2 h3 h4 h5 => exact big (.dict h1 h2 h3 h4 h5)
theorem ops_repr : OpS P w K (rRepr P w K) opRepr := by
  intro H vs ds z Q r e k
  unfold opRepr at e
  split at e
  · obtain ⟨x, rfl, hx⟩ := r.one
    split at e
    · rename_i d h
      cases e
      simp only [Bool.and_eq_true, decide_eq_true_eq, Bool.or_eq_true, Bool.not_eq_true'] at h
      obtain ⟨h1, h2, h3, h4⟩ := h
      refine ⟨x, _, rfl, hx, h1, by rw [← lim_eq]; exact h2, h3, ?_, k _ _ (Same.refl H) (.of (.str _))⟩
      rcases h4 with h4 | h4
      · exact .inl h4
      · unfold isD0 at h4
        split at h4
        · exact .inr rfl
        · cases h4
    · cases e
  · cases e
end
end Iv
namespace Iv
open PySem L2 LamX
/-- what x makes of an exception that bears data: its text -/
def hBorne (c : Str) : Exc → Option Iv.D := fun x => if x.cls = c then match x.arg with
    | some d => match opRepr [d] with
      | some (.d r) => some r
      | _ => none
    | none => none
  else none
section
variable {H : Hp} {X : Cx}
theorem borne_gives {Ng : List Str} {x a q c lack : Str} {sg : Scope} {g : Addr} {cdg : Value} {told : Str} {i j kt : Nat} {p0 p1 p2 pt p3 p4 p5 p6 p7 p8 p9 p10 p11 : Pos} (hgd : X.A.guards = some []) (hu : X.A.units + 100 < cLine) (hN : Ng.Nodup) (hi : Ng[i]? = some lack) (hln : sg.names.lookup lack = some .local)
    (hdl : (lack == ("__debug__" : Str)) = false) (hdc : (lack == ("__classdict__" : Str)) = false)
    (hgc : sg.names.lookup c = some .globalImplicit) (hdc2 : (c == ("__debug__" : Str)) = false) (hmc : X.mg c = some (.ref (He.ga X.K c))) (hgr : sg.names.lookup ("repr" : Str) = some .globalImplicit) (hmr : X.mg "repr" = none)
    (hex : PySem.W.exmOne X.K (.ref (He.ga X.K c)) (.ref (He.ga X.K c)) = some true) (hxf : XfC X.K (He.ga X.K c)) (hno : PySem.W.findIn X.K (.ref (He.ga X.K c)) "number" = some none)
    (h0 : ∀ f : Addr, (L2.start Ng [V.ref f])[0]? = some (some (V.ref f))) :
    GivesTo X Ng x sg g cdg [.Try [.Return (some (.Tuple [.Constant (.str told) j p0, .Call (.Name a p1) [] [] p2] kt pt)) p3] [.ExceptHandler (some (.Name c p4)) (some lack) [.Return (some (.Call (.Name "repr" p5) [.Attribute (.Name lack p6) "number" p7] [] p9)) p10] p11] [] [] p8] a q (TTmet X.prog X.w X.K (hBorne c)) := by
  intro f c' s H Q tl act hc h
  let Y := (cxOf C8.CX0 X.prog X.w X.K X.mg X.base Ng x sg g cdg X.A X.stack s H C8.E0).nox
  have hv : Vis sg lack := .inl hln
  refine ⟨_, pss_one (ps_try_as (X := Y) (i := i) (tb := fun W D σ H => ∃ Ech : XK, (∀ cls d (σ' : L2.St) H', σ'.length = Ng.length → Ech cls d H' → W cls d σ' H') ∧ σ[0]? = some (some (.ref f)) ∧ H c' = some (CodeO c' q) ∧ ∀ Q0, tl Ech H Q0)
    (ts := fun a cls d => tRet (tCB (rRepr X.prog X.w X.K) (tCons (tXf a cls d (He.ga X.K c) "number" (tVar i)) tNil))) rfl rfl hN hi hln ⟨hgc, hdc2, .inl hmc⟩ L2.takes0 (fun W pn xe tk _ => ?_) (fun a oe cls d pn hz hf => ?_)), ?_⟩
  · refine ⟨fun pins s' σ H' D I h' => ?_⟩
    obtain ⟨Ech, hW, h1, h2, h3⟩ := h'
    have tk' : Takes ((cxOf C8.CX0 X.prog X.w X.K X.mg X.base Ng x sg g cdg X.A X.stack s H C8.E0).tr pn xe) (fun cls d σ H => σ.length = Ng.length → W cls d σ H) := fun u s' ⟨a, B, sI, pins, σ, H, cls, d, e, I, nb, up, sky, na, os, ag, w⟩ => tk u s' ⟨a, B, sI, pins, σ, H, cls, d, e, I, nb, up, sky, na, os, ag, w I.len⟩
    have hp := act _ pn xe Ech p1 p2 tk' fun cls d σ' H' h l => hW cls d σ' H' l h
    exact (pss_one (ps_ret (pos := p3) (pe_tup (pa_cons pe_str (pa_cons hp pa_nil))))).run pins s' σ H' D I ⟨h1, h2, h3 _⟩
  · refine pss_one (ps_ret (pe_callB (call_reprE ?_ ?_) hgr hmr PyProof.Rows.Boot.«repr» (pa_cons (pe_xf hxf hno hz hf (pe_var hi hv hdl hdc)) pa_nil)))
    · exact hgd
    · show X.A.units + 3 + 64 < cLine
      omega
  · refine ⟨fun cls d H' => ∃ x dr, XRep X.prog X.w X.K x cls d H' ∧ hBorne c x = some dr ∧ ∀ v H'', Same H' H'' → PR X.prog X.w X.K H'' v dr → Q v H'', fun cls d σ' H' hl ⟨y, dr, xr, ey, k⟩ => ?_, h0 f, hc, h⟩
    unfold hBorne at ey
    split at ey
    · rename_i hcl
      split at ey
      · rename_i d0 ea
        split at ey
        · rename_i r er
          cases ey
          obtain ⟨ec, xr⟩ := xr
          rw [ea] at xr
          obtain ⟨dd, fs, v, ed, hdd, hlk, pv⟩ := xr
          subst ec
          rw [hcl]
          refine ⟨true, hex, fun _ a _ => ?_, fun z => nomatch z⟩
          have hi' : i < σ'.length := by rw [hl]; exact (List.getElem?_eq_some_iff.mp hi).1
          refine ⟨.ref a, List.getElem?_set_self hi', rfl, rfl, dd, fs, v, ed, hdd, hlk, ?_⟩
          obtain ⟨x', d', e1, h1, h2, h3, h4, h5, h6⟩ := ops_repr (P := X.prog) (w := X.w) (K := X.K) H' [v] [d0] (.d dr) (fun v H'' => Q v H'') (.cons (.of pv) .nil) er fun v H'' sm n => k v H'' sm n.1
          exact ⟨x', d', e1, h1, h2, h3, h4, h5, h6⟩
        · cases ey
      · cases ey
    · cases ey
end
end Iv
set_option Elab.async false
set_option linter.all false
set_option maxRecDepth 100000
set_option maxHeartbeats 1000000
/-! Iv: the rules with their looks at the text as one Bool each, for printed proofs. -/
namespace Iv
open PySem L2

def dbg (x : Str) : Bool := x == ("__debug__" : Str)
def vB (N : List Str) (sc : Scope) (i : Nat) (x : Str) : Bool := decide (N[i]? = some x) && ((decide (sc.names.lookup x = some .local) || (decide (sc.names.lookup x = some .cell) || decide (sc.names.lookup x = some .free))) && (!dbg x && !(x == ("__classdict__" : Str))))
def lB (N : List Str) (sc : Scope) (fn : Str → Bool) (i : Nat) (x : Str) : Bool := decide (N[i]? = some x) && ((decide (sc.names.lookup x = some .local) || decide (sc.names.lookup x = some .cell)) && (fn x || decide (sc.names.lookup x = some .local)))
def gB (env : PySem.Env) (x : Str) : Bool := decide (env.kindOf x = some .globalImplicit) && !dbg x
theorem vB_ok {N : List Str} {sc : Scope} {i : Nat} {x : Str} (h : vB N sc i x = true) : N[i]? = some x ∧ Vis sc x ∧ (x == ("__debug__" : Str)) = false ∧ (x == ("__classdict__" : Str)) = false := by
  unfold vB at h
  simp only [Bool.and_eq_true, decide_eq_true_eq, Bool.or_eq_true, Bool.not_eq_true'] at h
  exact ⟨h.1, h.2.1, h.2.2.1, h.2.2.2⟩
theorem lB_ok {N : List Str} {sc : Scope} {fn : Str → Bool} {i : Nat} {x : Str} (h : lB N sc fn i x = true) : N[i]? = some x ∧ Loc sc x ∧ (fn x = true ∨ sc.names.lookup x = some .local) := by
  unfold lB at h
  simp only [Bool.and_eq_true, decide_eq_true_eq, Bool.or_eq_true] at h
  exact h
theorem gB_ok {X : Cx} {x : Str} (h : gB X.env x = true) : Gl X x ∧ (x == ("__debug__" : Str)) = false := by
  unfold gB at h
  simp only [Bool.and_eq_true, decide_eq_true_eq, Bool.not_eq_true'] at h
  exact h
/-- a def that can be called -/
structure Cal (P : Program) (w : World) (K : PySem.W.Frag) (mg : Str → Option Value) (base : Heap) (k np : Nat) (x : Str) (F : Fn) : Prop where
  ex : ∃ (f : Addr) (fd : FuncData) (ps : List Str), FnOk P w K mg base (L2.CX P w) k f fd ps (FnSp P w K [] np F) ∧ mg x = some (.ref f) ∧ PySem.W.keepIn K (.ref f) = true ∧ Binds K fd ps []
  len : ∀ as r, F as = some r → as.length = np
/-- the module's names: what no name of the module hides -/
def Frs (mg : Str → Option Value) (free : List Str) : Prop := ∀ x ∈ free, mg x = none
section
variable {P : Program} {w : World} {K : PySem.W.Frag} {mg : Str → Option Value} {base : Heap} {Tb : List (Addr × Str)} {E : XK} {X : Cx} {k : Nat}
theorem Cal.mono {j np : Nat} {x : Str} {F : Fn} (C : Cal P w K mg base j np x F) (h : j ≤ k) : Cal P w K mg base k np x F := let ⟨f, fd, ps, a, b, c, d⟩ := C.ex; ⟨⟨f, fd, ps, a.mono h, b, c, d⟩, C.len⟩
theorem units_of (hr : Room k X.A) : X.A.units + 100 < cLine := by have := hr.un; omega
/-- a def's exceptions leave it -/
abbrev Lv (X : Cx) (E : XK) : Prop := Passes (L2.CX X.prog X.w) X E
theorem lv_no : Lv X E0 := fun _ _ _ _ _ _ _ h => by
  obtain ⟨_, _, _, _, _, _, _, _, _, _, _, _, _, _, z⟩ := h
theorem t_v {i : Nat} {x : Str} {pos : Pos} (h : vB X.N X.env.scope i x = true) : PE X (.Name x pos) (tE P w K Tb (evVar i) E) := let ⟨a, b, c, d⟩ := vB_ok h; pe_vr a b c d
theorem t_fv {i : Nat} {x : Str} {pos : Pos} (h : vB X.N X.env.scope i x = true) : PE X (.Name x pos) (tE P w K Tb (evFzv i) E) := let ⟨a, b, c, d⟩ := vB_ok h; pe_fzv a b c d
theorem t_k {d : Iv.D} {j : Nat} {pos : Pos} {cc : Const} (h : litC d = some cc) : PE X (.Constant cc j pos) (tE P w K Tb (evCon d) E) := pe_lit h
theorem t_cons {e : Expr} {es : List Expr} {f : M R} {g : M (List R)} (ha : PE X e (tE P w K Tb f E)) (hr : PA X es (tA P w K Tb g E)) (hs : nst e = true) : PA X (e :: es) (tA P w K Tb (evCons f g) E) := pa_cns ha hr hs
theorem t_call {e : Expr} {es : List Expr} {x : Str} {p pos : Pos} {np : Nat} {F : Fn} {g : M (List R)} (C : Cal X.prog X.w X.K X.mg X.base k np x F) (hr : Room k X.A) (h : gB X.env x = true) (hx : Lv X E) (ha : PA X (e :: es) (tA X.prog X.w X.K Tb g E)) (hs : (e :: es).all nst = true) :
    PE X (.Call (.Name x p) (e :: es) [] pos) (tE X.prog X.w X.K Tb (evCall F g) E) := by
  obtain ⟨f, fd, ps, a, b, c, d⟩ := C.ex
  obtain ⟨g1, g2⟩ := gB_ok h
  exact pe_callE (fnOk_any a Tb) hr g1 b c d hx ha C.len g2 hs
theorem t_op2 {a b : Expr} {o : Operator} {pos : Pos} {r : R2} {op : List Iv.D → Option A} {fa fb : M R} (ho : OpR X (binaryOp o) r) (h : OpS P w K (fun vs H Q => ∃ x y, vs = [x, y] ∧ r x y H Q) op) (ha : PE X a (tE P w K Tb fa E)) (hb : PE X b (tE P w K Tb fb E)) :
    PE X (.BinOp a o b pos) (tE P w K Tb (evOp op (evCons fa (evCons fb evNil))) E) := pe_bin ho ha hb h
theorem t_cmp {a b : Expr} {o : CmpOp} {pos : Pos} {r : R2} {op : List Iv.D → Option A} {fa fb : M R} (ho : OpR X (compareOp o) r) (h : OpS P w K (fun vs H Q => ∃ x y, vs = [x, y] ∧ r x y H Q) op) (ha : PE X a (tE P w K Tb fa E)) (hb : PE X b (tE P w K Tb fb E)) (hm : behindInMarks o b = false) :
    PE X (.Compare a [o] [b] pos) (tE P w K Tb (evOp op (evCons fa (evCons fb evNil))) E) := pe_cmp1 ho ha hb h hm
theorem t_cmpT {a b : Expr} {o : CmpOp} {pos : Pos} {r : R2} {op : List Iv.D → Option A} {fa fb : M R} (ho : OpR X (compareOp o) r) (h : OpS P w K (fun vs H Q => ∃ x y, vs = [x, y] ∧ r x y H Q) op) (ha : PE X a (tE P w K Tb fa E)) (hb : PE X b (tE P w K Tb fb E)) (hm : behindInMarks o b = false) :
    PT X (.Compare a [o] [b] pos) (tT P w K Tb (evB (evOp op (evCons fa (evCons fb evNil)))) E) := pt_cmp1 ho ha hb h hm
theorem t_ix {a b : Expr} {pos : Pos} {fa fb : M R} (hr : Room k X.A) (ha : PE X a (tE X.prog X.w X.K Tb fa E)) (hb : PE X b (tE X.prog X.w X.K Tb fb E)) (hs : PlainIx b) : PE X (.Subscript a b pos) (tE X.prog X.w X.K Tb (evOp opIxA (evCons fa (evCons fb evNil))) E) :=
  pe_ixE (ix_A (by have := units_of hr; omega)) ha hb ops_ixA hs
/-- a built-in function -/
theorem t_blt {e : Expr} {es : List Expr} {x : Str} {p pos : Pos} {id : String} {r : List V → Hp → VK → Prop} {op : List Iv.D → Option A} {g : M (List R)} {fr : List Str} (hf : Frs X.mg fr) (hc : CallR X (.builtin id) r) (o : OpS P w K r op) (hm : x ∈ fr) (hv : bootBuiltins x = some (.builtin id)) (hn : x ≠ "__name__") (h : gB X.env x = true) (ha : PA X (e :: es) (tA P w K Tb g E)) (hs : (e :: es).all nst = true) :
    PE X (.Call (.Name x p) (e :: es) [] pos) (tE P w K Tb (evOp op g) E) := let ⟨g1, g2⟩ := gB_ok h; pe_blt hc g1 (hf x hm) hv ha o hn g2 hs
theorem t_bty {e : Expr} {es : List Expr} {x : Str} {p pos : Pos} {T : String} {r : List V → Hp → VK → Prop} {op : List Iv.D → Option A} {g : M (List R)} {fr : List Str} (hf : Frs X.mg fr) (hc : CallR X (.type T) r) (o : OpS P w K r op) (hm : x ∈ fr) (hv : bootBuiltins x = some (.type T)) (hn : x ≠ "__name__") (h : gB X.env x = true) (ha : PA X (e :: es) (tA P w K Tb g E)) (hs : (e :: es).all nst = true) :
    PE X (.Call (.Name x p) (e :: es) [] pos) (tE P w K Tb (evOp op g) E) := let ⟨g1, g2⟩ := gB_ok h; pe_blty hc g1 (hf x hm) hv ha o hn g2 hs
theorem t_isi {e : Expr} {p p2 pos : Pos} {T : Ty} {tn : Str} {f : M R} {fr : List Str} (hf : Frs X.mg fr) (h1 : ("isinstance" : Str) ∈ fr) (h2 : tn ∈ fr) (hvt : bootBuiltins tn = some (.type T.nm)) (hn2 : tn ≠ "__name__") (hg : gB X.env "isinstance" = true) (ht : gB X.env tn = true) (he : PE X e (tE X.prog X.w X.K Tb f E)) (hs : nst e = true) :
    PE X (.Call (.Name "isinstance" p) [e, .Name tn p2] [] pos) (tE X.prog X.w X.K Tb (evOp (opIsi T) (evCons f evNil)) E) :=
  let ⟨g1, g2⟩ := gB_ok hg
  let ⟨g3, g4⟩ := gB_ok ht
  pe_isiE g1 (hf _ h1) PyProof.Rows.Boot.«isinstance» g3 (hf _ h2) hvt he hs (by decide) g2 hn2 g4
theorem u64 (hr : Room k X.A) : X.A.units + 64 < cLine := by have := units_of hr; omega
theorem u66 (hr : Room k X.A) : X.A.units + 66 < cLine := by have := units_of hr; omega
/-! ### min of a list -/
def minS (m : Int) : Iv.D → Option Int
  | .int j => some (if j < m then j else m)
  | _ => none
def opMinL : List Iv.D → Option A
  | [.list (.int i :: ds)] => (ds.foldlM minS i).map fun m => .d (.int m)
  | _ => none
theorem minL_ok : ∀ {ds : List Iv.D} {i m : Int}, ds.foldlM minS i = some m → ∃ ns : List Int, ds = ns.map .int ∧ m ∈ i :: ns ∧ ∀ y ∈ i :: ns, m ≤ y
  | [], i, m, h => by cases h; exact ⟨[], rfl, by simp, by simp⟩
  | d :: ds, i, m, h => by
    rw [List.foldlM_cons] at h
    obtain ⟨i', e, h⟩ := Option.bind_eq_some_iff.mp h
    unfold minS at e
    split at e
    · rename_i j
      obtain ⟨ns, rfl, hm, hy⟩ := minL_ok h
      cases e
      refine ⟨j :: ns, rfl, ?_, fun y hy' => ?_⟩
      · rcases List.mem_cons.mp hm with z | z
        · rw [z]
          split
          · simp
          · simp
        · simp [z]
      · have h0 := hy _ (List.mem_cons_self ..)
        rcases List.mem_cons.mp hy' with z | z
        · subst z; split at h0 <;> omega
        · rcases List.mem_cons.mp z with z | z
          · subst z; split at h0 <;> omega
          · exact hy y (List.mem_cons_of_mem _ z)
    · cases e
theorem ops_minL : OpS P w K (rMin K) opMinL := by
  intro H vs ds z Q r e k
  unfold opMinL at e
  split at e
  · rename_i i ds
    obtain ⟨x, rfl, hx⟩ := r.one
    obtain ⟨m, e1, e2⟩ := Option.map_eq_some_iff.mp e
    cases e2
    obtain ⟨ns, rfl, hm, hy⟩ := minL_ok e1
    obtain ⟨a, vs, rfl, hs, r1⟩ := hx.lst
    have : vs = (i :: ns).map V.int := PRs.ints (ns := i :: ns) r1
    subst this
    refine ⟨a, i :: ns, rfl, hs, by simp, fun m' hm' hy' => ?_⟩
    have : m' = m := Int.le_antisymm (hy' m hm) (hy m' hm')
    subst this
    exact k _ _ (Same.refl H) (.of (.int _))
  · cases e
/-! ### statements -/
theorem t_set {i : Nat} {x : Str} {e : Expr} {f : M R} {pos pos' : Pos} (hN : X.N.Nodup) (h : lB X.N X.env.scope X.fn i x = true) (he : PE X e (tE P w K Tb f E)) (hs : swapsWith e (some (.Name x pos')) pos.line X.env = pure false) : PS X (.Assign [.Name x pos'] e pos) (tS P w K Tb (evSet i f) E) :=
  let ⟨a, b, c⟩ := lB_ok h
  ps_setE (ps_set hN a b he hs c)
theorem t_aug {i : Nat} {x : Str} {e : Expr} {f : M R} {pos pos' : Pos} (hN : X.N.Nodup) (h : lB X.N X.env.scope X.fn i x = true) (he : PE X e (tE P w K Tb f E)) : PS X (.AugAssign (.Name x pos') .Add e pos) (tS P w K Tb (evAug i f) E) :=
  let ⟨a, b, c⟩ := lB_ok h
  ps_augE hN a b c he
theorem t_gn {i : Nat} {x : Str} {pos : Pos} (hN : X.N.Nodup) (h : lB X.N X.env.scope X.fn i x = true) : PG X (.Name x pos) (tG P w K Tb [i] (gvName i)) :=
  let ⟨a, b, c⟩ := lB_ok h
  pg_nameE hN a b c
theorem t_gt {es : List Expr} {j : Nat} {pos : Pos} {n : Nat} {js : List Nat} {h : Bds} (hc : X.calm = true) (hg : PGs X es (tGs P w X.K Tb js h)) (hn : (assignEach es X.env).length = n) (hst : (assignEach es X.env).findIdx? (·.1) = none) : PG X (.Tuple es j pos) (tG P w X.K Tb js (gvTup n h)) := pg_tupE (pg_tup hc hg hn hst)
theorem t_append {e : Expr} {i : Nat} {xn : Str} {p apos cpos : Pos} {g : M (List R)} (h : vB X.N X.env.scope i xn = true) (ha : PA X [e] (tA X.prog X.w X.K Tb g E)) (hst : [e].all nst = true) (hline : (apos.endLine == cpos.line) = true) :
    PE X (.Call (.Attribute (.Name xn p) "append" apos) [e] [] cpos) (tE X.prog X.w X.K Tb (evMut i .lst mAppend false g) E) :=
  let ⟨a, b, c, d⟩ := vB_ok h
  pe_mutE (o := .Name xn p) PySem.F.plainAttrs_list PySem.F.slot_list_append (by kernel_rfl) mt_append a b c d ha hst (by simp) hline mut_append
theorem t_extend {e : Expr} {i : Nat} {xn : Str} {p apos cpos : Pos} {g : M (List R)} (h : vB X.N X.env.scope i xn = true) (ha : PA X [e] (tA X.prog X.w X.K Tb g E)) (hst : [e].all nst = true) (hline : (apos.endLine == cpos.line) = true) :
    PE X (.Call (.Attribute (.Name xn p) "extend" apos) [e] [] cpos) (tE X.prog X.w X.K Tb (evMut i .lst mExtend true g) E) :=
  let ⟨a, b, c, d⟩ := vB_ok h
  pe_mutE (o := .Name xn p) PySem.F.plainAttrs_list PySem.F.slot_list_extend (by kernel_rfl) mt_extendR a b c d ha hst (by simp) hline mut_extend
theorem t_pop {i : Nat} {xn : Str} {p apos cpos : Pos} (h : vB X.N X.env.scope i xn = true) (hline : (apos.endLine == cpos.line) = true) :
    PE X (.Call (.Attribute (.Name xn p) "pop" apos) [] [] cpos) (tE X.prog X.w X.K Tb (evMut i .lst mPop false evNil) E) :=
  let ⟨a, b, c, d⟩ := vB_ok h
  pe_mutE0 PySem.F.plainAttrs_list PySem.F.slot_list_pop (by kernel_rfl) mt_pop a b c d hline mut_pop
/-- x[i] = e of a list or a dict -/
def sAny : A → Iv.D → Iv.D → Option A
  | .l xs, i, d => sList (.l xs) i d
  | .m kvs, i, d => sDict (.m kvs) i d
  | _, _, _ => none
theorem set_anyS : SetS P w K (fun o i v H Q => rSetL o i v H Q ∨ rSetD P w K o i v H Q) sAny := by
  intro H a x x' vi v di dv Q r hx ri pv e k
  unfold sAny at e
  split at e
  · exact .inl (set_listS H a _ x' vi v di dv Q r hx ri pv e k)
  · exact .inr (set_dictS H a _ x' vi v di dv Q r hx ri pv e k)
  · cases e
theorem set_any (hu : X.A.units + 64 < cLine) : PSet X (fun o i v H Q => rSetL o i v H Q ∨ rSetD X.prog X.w X.K o i v H Q) := by
  intro pins s σ H o i v ov iv u Q I ro ri rv q
  rcases q with q | q
  · exact set_list pins s σ H o i v ov iv u Q I ro ri rv q
  · exact set_dct hu pins s σ H o i v ov iv u Q I ro ri rv q
theorem t_store {xn : Str} {p p2 pos : Pos} {i : Nat} {ie e : Expr} {fi fe : M R} (hr : Room k X.A) (h : vB X.N X.env.scope i xn = true) (hi : PE X ie (tE X.prog X.w X.K Tb fi E)) (he : PE X e (tE X.prog X.w X.K Tb fe E)) (hn : nsl ie = true) :
    PS X (.Assign [.Subscript (.Name xn p) ie p2] e pos) (tS X.prog X.w X.K Tb (evStore i sAny fi fe) E) :=
  let ⟨a, b, c, d⟩ := vB_ok h
  ps_storeE a b c d hi he (set_any (u64 hr)) set_anyS hn
theorem t_for {tg iter : Expr} {body : List Stmt} {pos : Pos} {f : M (List Iv.D)} {js : List Nat} {g : Bd} {b : M Fw} (hp : PassesOwn (model X.prog X.w) X.A X.env X.xe) (hc : X.calm = true) (hi : PI X tg iter (tIt P w K Tb f E)) (hg : PG X tg (tG P w K Tb js g)) (hb : PSs X body (tS P w K Tb b E))
    (hs : ∀ x, foldedSetIterable iter X.env x = pure x) : PS X (.For tg iter body [] pos) (tS P w K Tb (evFor f g b) E) := ps_forE hp hc hi hg hb hs
/-! ### what is walked: a row, a dict's keys -/
def isDR (x : Res R) : Bool := match x with
  | some (.ok (.a (.d (.dict _)), _)) => true
  | _ => false
def itAny (f : M R) : M (List Iv.D) := fun Γ => if isDR (fz f Γ) then itKeys f Γ else itSeq f Γ
theorem pi_any {tg e : Expr} {f : M R} (h : PE X e (tE X.prog X.w X.K Tb f E)) : PI X tg e (tIt X.prog X.w X.K Tb (itAny f) E) := by
  refine ⟨fun pins s σ H R I ⟨c, Γ, S, q⟩ => ?_⟩
  unfold itAny at q
  split at q
  · exact (pi_keysE h).run pins s σ H R I ⟨c, Γ, S, q⟩
  · exact (pi_seqE h).run pins s σ H R I ⟨c, Γ, S, q⟩
/-- a constant of the module -/
def Kon (mg : Str → Option Value) (x : Str) (d : Iv.D) : Prop := ∃ v u, litV d = some v ∧ mg x = some u ∧ RelV v u
theorem t_kon {x : Str} {d : Iv.D} {pos : Pos} (h : Kon X.mg x d) (g : gB X.env x = true) : PE X (.Name x pos) (tE P w K Tb (evCon d) E) :=
  let ⟨v, u, h1, h2, h3⟩ := h
  pe_constE (gB_ok g).1 h2 h1 h3 (gB_ok g).2
theorem t_rng1 {tg a : Expr} {p pos : Pos} {g : M (List R)} {fr : List Str} (hf : Frs X.mg fr) (hm : ("range" : Str) ∈ fr) (h : gB X.env "range" = true) (ha : PA X [a] (tA P w K Tb g E)) (hs : nst a = true) : PI X tg (.Call (.Name "range" p) [a] [] pos) (tIt P w K Tb (itRng1 g) E) := pi_rng1E (gB_ok h).1 (hf _ hm) ha hs
theorem t_rng2 {tg a b : Expr} {p pos : Pos} {g : M (List R)} {fr : List Str} (hf : Frs X.mg fr) (hm : ("range" : Str) ∈ fr) (h : gB X.env "range" = true) (ha : PA X [a, b] (tA P w K Tb g E)) (hs : nst a = true) (hs2 : nst b = true) : PI X tg (.Call (.Name "range" p) [a, b] [] pos) (tIt P w K Tb (itRng2 g) E) := pi_rng2E (gB_ok h).1 (hf _ hm) ha hs hs2
theorem t_enum {e : Expr} {p pos tpos : Pos} {elts : List Expr} {kk : Nat} {g : M (List R)} {fr : List Str} (hf : Frs X.mg fr) (hm : ("enumerate" : Str) ∈ fr) (h : gB X.env "enumerate" = true) (ha : PA X [e] (tA P w X.K Tb g E)) (hs : nst e = true) :
    PI X (.Tuple elts kk tpos) (.Call (.Name "enumerate" p) [e] [] pos) (tIt P w X.K Tb (itEnum g) E) := pi_enumE (gB_ok h).1 (hf _ hm) ha hs
theorem t_zip {e e2 : Expr} {p pos tpos : Pos} {elts : List Expr} {kk : Nat} {g : M (List R)} {fr : List Str} (hf : Frs X.mg fr) (hm : ("zip" : Str) ∈ fr) (h : gB X.env "zip" = true) (ha : PA X [e, e2] (tA P w X.K Tb g E)) (hs : nst e = true) (hs2 : nst e2 = true) :
    PI X (.Tuple elts kk tpos) (.Call (.Name "zip" p) [e, e2] [] pos) (tIt P w X.K Tb (itZip g) E) := pi_zipE (gB_ok h).1 (hf _ hm) ha hs hs2
theorem t_skip {l : List Stmt} : PSs X l (tS P w K Tb (fun _ => none) E) := ⟨fun pins s σ H D I ⟨c, Γ, S, q⟩ => q.elim⟩
theorem t_skip1 {l : Stmt} : PS X l (tS P w K Tb (fun _ => none) E) := ⟨fun pins s σ H D I ⟨c, Γ, S, q⟩ => q.elim⟩
theorem t_skipE {l : Expr} : PE X l (tE P w K Tb (fun _ => none) E) := ⟨fun pins s σ H D I ⟨c, Γ, S, q⟩ => q.elim⟩
end
/-- THE RULE for a def, of what the head tells -/
theorem fn_okD {Pg : Program} {w : World} {K : PySem.W.Frag} {mg : Str → Option Value} {base : Heap} {x qual : Str} {st : Stmt} {f : Addr} {fd : FuncData} {N ps : List Str} {k : Nat} {b : M Fw} {Tb : List (Addr × Str)} (F : FunD K x qual (defArgs st) (defBody st) (defScope st) [] [] f fd) (S : FnScope N ps (defScope st))
    (hbody : ∀ (cdv : Value) (A : Around) (outer : List PySem.Env) (s : Shared) (H : Hp) (E : XK), Room k (A.deeper (PyProof.Rows.envOfC qual (defScope st) s.heap.objs.size f cdv)) →
      PSs (cxOf (L2.CX Pg w) Pg w K mg base N qual (defScope st) f cdv A outer s H E) (defBody st) (tS Pg w K Tb b E)) :
    FnOk Pg w K mg base (L2.CX Pg w) (k + 1) f fd ps (FnSp Pg w K Tb ps.length (evFn ps.length N.length b)) := by
  refine F.ok S (fun vs H Q E ⟨_, as, hl, ar, _⟩ => by rw [ar.len, hl]) fun cdv A outer s H vs Q E hr h => ⟨_, hbody cdv A outer s H E hr, tS_fn h⟩
theorem cal_of {Pg : Program} {w : World} {K : PySem.W.Frag} {mg : Str → Option Value} {base : Heap} {x qual : Str} {st : Stmt} {f : Addr} {fd : FuncData} {N ps : List Str} {k : Nat} {b : M Fw} (F : FunD K x qual (defArgs st) (defBody st) (defScope st) [] [] f fd) (hm : mg x = some (.ref f)) (S : FnScope N ps (defScope st)) (hb : Binds K fd ps [])
    (hbody : ∀ (cdv : Value) (A : Around) (outer : List PySem.Env) (s : Shared) (H : Hp) (E : XK), Room k (A.deeper (PyProof.Rows.envOfC qual (defScope st) s.heap.objs.size f cdv)) →
      PSs (cxOf (L2.CX Pg w) Pg w K mg base N qual (defScope st) f cdv A outer s H E) (defBody st) (tS Pg w K [] b E)) : Cal Pg w K mg base (k + 1) ps.length x (evFn ps.length N.length b) :=
  ⟨⟨f, fd, ps, fn_okD F S hbody, hm, F.kp, hb⟩, fun _ _ h => evFn_len h⟩
end Iv
set_option Elab.async false
set_option linter.all false
set_option maxRecDepth 100000
set_option maxHeartbeats 1000000
/-! Iv: rules for printed proofs, the second part. -/
namespace Iv
open PySem L2
section
variable {P : Program} {w : World} {K : PySem.W.Frag} {mg : Str → Option Value} {base : Heap} {Tb : List (Addr × Str)} {E : XK} {X : Cx} {k : Nat}
/-- a name of the def's own, no cell -/
def ownB (N : List Str) (sc : Scope) (i : Nat) (x : Str) : Bool := decide (N[i]? = some x) && decide (sc.names.lookup x = some .local)
theorem ownB_ok {N : List Str} {sc : Scope} {i : Nat} {x : Str} (h : ownB N sc i x = true) : N[i]? = some x ∧ sc.names.lookup x = some .local := by
  unfold ownB at h
  simpa only [Bool.and_eq_true, decide_eq_true_eq] using h
theorem t_setLc {i : Nat} {y : Str} {py : Pos} {elt tg iter : Expr} {ifs : List Expr} {scope : Scope} {own : List (Str × Nat)} {pos spos : Pos} {f : M (List Iv.D)} {js : List Nat} {g : Bd} {t : M Bool} {e : M R} (hc : X.calm = true) (hN : X.N.Nodup) (h : ownB X.N X.env.scope i y = true)
    (hsw : swapsWith (.ListComp elt [⟨tg, iter, ifs, 0⟩] scope pos) (some (.Name y py)) spos.line X.env = pure true) (hi : PI X tg iter (tIt P w K Tb f E)) (ok : BlkOk X.N X.env.scope scope own)
    (hg : ∀ (s : Shared) (H : Hp) (C : Addr) (cl : List (Str × Addr)) (fp : List Addr), PG (X.blk s H scope (compEnvC scope cl C X.env) fp) tg (tG P w K Tb js g)) (ht : ∀ (s : Shared) (H : Hp) (C : Addr) (cl : List (Str × Addr)) (fp : List Addr), PTs (X.blk s H scope (compEnvC scope cl C X.env) fp) ifs (tT P w K Tb t E0))
    (he : ∀ (s : Shared) (H : Hp) (C : Addr) (cl : List (Str × Addr)) (fp : List Addr), PE (X.blk s H scope (compEnvC scope cl C X.env) fp) elt (tE P w K Tb e E0)) (hs : ∀ x, foldedSetIterable iter X.env x = pure x) (bo : BdOk js g) (hjs : ∀ j ∈ js, j ∈ own.map (·.2)) :
    PS X (.Assign [.Name y py] (.ListComp elt [⟨tg, iter, ifs, 0⟩] scope pos) spos) (tS P w K Tb (evSet i (evLc f g t e (own.map (·.2)))) E) :=
  let ⟨a, b⟩ := ownB_ok h
  ps_setLcE hc hN a b hsw hi ok hg ht he hs bo hjs
theorem t_par2 {i j : Nat} {x y : Str} {a b : Expr} {px py pt : Pos} {kt k2 : Nat} {pt2 pos : Pos} {g : M (List A)} (hc : X.calm = true) (hN : X.N.Nodup) (hi : ownB X.N X.env.scope i x = true) (hj : ownB X.N X.env.scope j y = true) (hij : i ≠ j) (ha : PA X [a, b] (tN P w K Tb g E))
    (hw : swappedStores [.Tuple [.Name x px, .Name y py] kt pt] (.Tuple [a, b] k2 pt2) X.env = pure (some [x, y]))
    (hs : swapsWithSole [.Tuple [.Name x px, .Name y py] kt pt] (.Tuple [a, b] k2 pt2) pos.line X.env = pure false) :
    PS X (.Assign [.Tuple [.Name x px, .Name y py] kt pt] (.Tuple [a, b] k2 pt2) pos) (tS P w K Tb (evPar [i, j] g) E) :=
  ps_par2E hc hN (ownB_ok hi).1 (ownB_ok hj).1 hij (ownB_ok hi).2 (ownB_ok hj).2 ha hw hs
theorem t_par3 {i j l : Nat} {x y z : Str} {a b d : Expr} {px py pz pt : Pos} {kt k2 : Nat} {pt2 pos : Pos} {g : M (List A)} (hc : X.calm = true) (hN : X.N.Nodup) (hi : ownB X.N X.env.scope i x = true) (hj : ownB X.N X.env.scope j y = true) (hl : ownB X.N X.env.scope l z = true) (hij : i ≠ j) (hil : i ≠ l) (hjl : j ≠ l)
    (ha : PA X [a, b, d] (tN P w K Tb g E))
    (hw : swappedStores [.Tuple [.Name x px, .Name y py, .Name z pz] kt pt] (.Tuple [a, b, d] k2 pt2) X.env = pure (some [x, y, z]))
    (hs : swapsWithSole [.Tuple [.Name x px, .Name y py, .Name z pz] kt pt] (.Tuple [a, b, d] k2 pt2) pos.line X.env = pure false) :
    PS X (.Assign [.Tuple [.Name x px, .Name y py, .Name z pz] kt pt] (.Tuple [a, b, d] k2 pt2) pos) (tS P w K Tb (evPar [i, j, l] g) E) :=
  ps_par3E hc hN (ownB_ok hi).1 (ownB_ok hj).1 (ownB_ok hl).1 hij hil hjl (ownB_ok hi).2 (ownB_ok hj).2 (ownB_ok hl).2 ha hw hs
theorem t_nm {i : Nat} {x : Str} {pos : Pos} {es : List Expr} {js : List Nat} (h : lB X.N X.env.scope X.fn i x = true) (t : Names X es js) : Names X (.Name x pos :: es) (i :: js) := let ⟨a, b, c⟩ := lB_ok h; .cons a b c t
end
/-- a def of the row's top -/
structure DefH (K : PySem.W.Frag) (mg : Str → Option Value) (x : Str) (st : Stmt) : Prop where
  ex : ∃ fd, FunD K x x (defArgs st) (defBody st) (defScope st) [] [] (He.ga K x) fd
  g : mg x = some (.ref (He.ga K x))
end Iv
set_option Elab.async false
set_option linter.all false
set_option maxRecDepth 100000
set_option maxHeartbeats 1000000
/-! Iv: raises of own classes, by facts of the head. -/
namespace Iv
open PySem L2
/-- an own class without own __init__ -/
structure PlX (K : PySem.W.Frag) (mg : Str → Option Value) (x : Str) (bmB : List Value) (newId : String) : Prop where
  g : mg x = some (.ref (He.ga K x))
  e : PySem.W.excIn K (He.ga K x) bmB newId = true
  kp : PySem.W.keepIn K (.ref (He.ga K x)) = true
  s : PySem.W.subIn K (.ref (He.ga K x)) (.type "BaseException") = some true
  t : PySem.W.typeIn K (.ref (He.ga K x)) = some (.type "type")
/-- an own class whose __init__ keeps a number -/
structure LkX (K : PySem.W.Frag) (mg : Str → Option Value) (x : Str) (bmB : List Value) (newId : String) (fI : Addr) : Prop where
  g : mg x = some (.ref (He.ga K x))
  kp : PySem.W.keepIn K (.ref (He.ga K x)) = true
  T : XcC K bmB newId (He.ga K x)
  no : PySem.W.findIn K (.ref (He.ga K x)) "number" = some none
  iC : PySem.W.findIn K (.ref (He.ga K x)) "__init__" = some (some (.ref fI))
/-- that __init__ -/
structure InX (P : Program) (w : World) (K : PySem.W.Frag) (mg : Str → Option Value) (base : Heap) (bmB : List Value) (newId : String) (fI : Addr) : Prop where
  ex : ∃ (fd : FuncData) (ps : List Str), FnOk P w K mg base (L2.CX P w) 1 fI fd ps (spLack K bmB newId) ∧ Binds K fd ps []
  tI : PySem.W.typeIn K (.ref fI) = some (.type "function")
section
variable {P : Program} {w : World} {K : PySem.W.Frag} {Tb : List (Addr × Str)} {E : XK} {X : Cx} {x : Str} {bmB : List Value} {B newId initId : String} {k : Nat} {p p2 pos pos2 : Pos} {j : Nat}
theorem t_raise {m : Str} (F : ExcBaseFacts B newId initId bmB) (px : PlX X.K X.mg x bmB newId) (hc : X.calm = true) (tk : Takes X fun cls d _ H => E cls d H) (h : gB X.env x = true) :
    PS X (.Raise (some (.Call (.Name x p) [.Constant (.str m) j p2] [] pos)) none pos2) (tS P w X.K Tb (evRaise x) E) :=
  ps_raiseE hc tk (pmk_own F px.e px.g px.kp (raises_own px.s px.t) (gB_ok h).1 (gB_ok h).2)
theorem t_raiseN {e : Expr} {f : M R} {fI : Addr} (F : ExcBaseFacts B newId initId bmB) (lx : LkX X.K X.mg x bmB newId fI) (ix : InX X.prog X.w X.K X.mg X.base bmB newId fI) (hr : Room 2 X.A) (hc : X.calm = true) (tk : Takes X fun cls d _ H => E cls d H) (h : gB X.env x = true)
    (he : PE X e (tE X.prog X.w X.K Tb f E)) (hs : nst e = true) :
    PS X (.Raise (some (.Call (.Name x p) [e] [] pos)) none pos2) (tS X.prog X.w X.K Tb (evRaiseN x f) E) := by
  obtain ⟨fd, ps, F1, hb⟩ := ix.ex
  refine ps_raiseNE hc tk (pmk_num F lx.T lx.no lx.kp lx.iC ix.tI F1 hr hb (passes_call tk fun _ _ _ _ h => h.elim) (gB_ok h).1 lx.g (t_cons he pa_nl hs) (gB_ok h).2 (star_cons hs) rfl)
end
/-! ### what the head looks up -/
def xcB (K : PySem.W.Frag) (bmB : List Value) (newId : String) (C : Addr) : Bool := match K.lookup C with
  | some ⟨.type "type", _, .cls cd, sl⟩ => (match cd.mro, sl.toList with
    | .ref C' :: bm, [_, _, _, _, some (.builtin n), _] => C' == C && n == newId && !cd.hasDel && (cd.hasDict && refsTo bmB bm)
    | _, _ => false)
  | _ => false
theorem xcB_ok {K : PySem.W.Frag} {bmB : List Value} {newId : String} {C : Addr} (q : xcB K bmB newId C = true) : ∃ nm q N bs bm sn sub ab col dd k0 k1 k2 k3 k5, K.lookup C = some (PySem.excClassObj nm q C N bs bm true sn sub ab col dd k0 k1 k2 k3 k5 newId) ∧ refsTo bmB bm = true := by
  unfold xcB at q
  split at q
  · rename_i dd cd sl ho
    split at q
    · rename_i C' bm k0 k1 k2 k3 n k5 hm hs
      simp only [Bool.and_eq_true, beq_iff_eq, Bool.not_eq_true'] at q
      obtain ⟨⟨⟨rfl, rfl⟩, hdel⟩, hdict, ht⟩ := q
      obtain ⟨nm, bs, mro, ns, qn, hd, sn, sub, ab, col, del⟩ := cd
      dsimp only at hm hdel hdict
      subst hm hdel hdict
      have hsl : sl = #[k0, k1, k2, k3, some (.builtin n), k5] := by
        obtain ⟨l⟩ := sl
        simp only at hs
        rw [hs]
      subst hsl
      exact ⟨nm, qn, ns, bs, bm, sn, sub, ab, col, dd, k0, k1, k2, k3, k5, ho, ht⟩
    · cases q
  · cases q
/-- all of an own class with such an __init__ -/
def lkB (bmB : List Value) (newId : String) (x : Str) (K : PySem.W.Frag) : Bool := xcB K bmB newId (He.ga K x) && (He.eqO (PySem.W.findIn K (.ref (He.ga K x)) "__setattr__") (some (some (.builtin "object.__setattr__"))) && (decide (PySem.W.subIn K (.ref (He.ga K x)) (.type "BaseException") = some true) &&
  (decide (PySem.W.typeIn K (.ref (He.ga K x)) = some (.type "type")) && (PySem.W.keepIn K (.ref (He.ga K x)) && He.eqO (PySem.W.findIn K (.ref (He.ga K x)) "number") (some none)))))
theorem lkB_ok {K : PySem.W.Frag} {mg : Str → Option Value} {bmB : List Value} {newId : String} {x : Str} {fI : Addr} (h : lkB bmB newId x K = true) (g : mg x = some (.ref (He.ga K x))) (i : He.eqO (PySem.W.findIn K (.ref (He.ga K x)) "__init__") (some (some (.ref fI))) = true) : LkX K mg x bmB newId fI := by
  unfold lkB at h
  simp only [Bool.and_eq_true, decide_eq_true_eq] at h
  obtain ⟨h1, h2, h3, h4, h5, h6⟩ := h
  exact ⟨g, h5, ⟨xcB_ok h1, He.eqO_ok h2, h3, h4⟩, He.eqO_ok h6, He.eqO_ok i⟩
/-- an own class without an __init__ -/
def plB (bmB : List Value) (newId : String) (x : Str) (K : PySem.W.Frag) : Bool := PySem.W.excIn K (He.ga K x) bmB newId && (PySem.W.keepIn K (.ref (He.ga K x)) && (decide (PySem.W.subIn K (.ref (He.ga K x)) (.type "BaseException") = some true) && decide (PySem.W.typeIn K (.ref (He.ga K x)) = some (.type "type"))))
theorem plB_ok {K : PySem.W.Frag} {mg : Str → Option Value} {bmB : List Value} {newId : String} {x : Str} (h : plB bmB newId x K = true) (g : mg x = some (.ref (He.ga K x))) : PlX K mg x bmB newId := by
  unfold plB at h
  simp only [Bool.and_eq_true, decide_eq_true_eq] at h
  exact ⟨g, h.1, h.2.1, h.2.2.1, h.2.2.2⟩
def leBase : List Value := [.type "LookupError", .type "Exception", .type "BaseException", .type "object"]
/-- what LackError's __init__ does keeps its promise -/
theorem lack_sem {K : PySem.W.Frag} {vs : List V} {H : Hp} {Q : VK} {E : XK} {m : Str} (h : spLack K leBase "LookupError.__new__" vs H Q E) :
    tSeq (tDrop (tBi K leBase "LookupError.__new__" (tCons (tVar 0) (tCons (tC (.str m)) tNil)))) (tFst K leBase "LookupError.__new__" "number" (tVar 0) (tVar 1)) { nx := fun _ H' => Q .non H', rt := Q } (L2.start ["self", "number"] vs) H := by
  obtain ⟨a, C, y, rfl, T, hno, ea, k⟩ := h
  exact ⟨_, rfl, a, C, _, rfl, by simp, T, ea, _, rfl, _, rfl, a, C, rfl, T, hno, ea, k⟩
def inCls (st : Stmt) (j : Nat) : Stmt := match st with
  | .ClassDef _ _ _ body _ _ _ _ _ _ _ => body.getD j (.Pass ⟨0, 0, 0, 0⟩)
  | s => s
/-- a method of a class of the row's top, as a def -/
structure DefM (K : PySem.W.Frag) (x qual : Str) (st : Stmt) (f : Addr) : Prop where
  ex : ∃ fd, FunD K x qual (defArgs st) (defBody st) (defScope st) [] [] f fd
  tI : PySem.W.typeIn K (.ref f) = some (.type "function")
end Iv
set_option Elab.async false
set_option linter.all false
set_option maxRecDepth 100000
set_option maxHeartbeats 1000000
/-! Iv: a slot that holds a def: the loop over a tuple of defs, the call of such a slot. -/
namespace Iv
open PySem L2
section
variable {P : Program} {w : World} {K : PySem.W.Frag} {mg : Str → Option Value} {base : Heap} {Tb : List (Addr × Str)} {c : Ctx Tb} {Γ Γ' Γ1 Γ2 : Env} {σ σ' : L2.St} {H H' H1 H2 : Hp} {E : XK} {X : Cx} {D : Ends} {k : Nat}
def evCallV (i : Nat) (tbl : List (Str × Fn)) (g : M (List R)) : M R := fun Γ => match Γ[i]? with
  | some (.fn n) => match tbl.lookup n with
    | some F => evCall F g Γ
    | none => none
  | _ => none
/-- a def that can be called, at its own address -/
def CalA (P : Program) (w : World) (K : PySem.W.Frag) (mg : Str → Option Value) (base : Heap) (k : Nat) (x : Str) (F : Fn) : Prop := mg x = some (.ref (He.ga K x)) ∧ ∃ np, Cal P w K mg base k np x F
theorem lookup_in {α : Type} {n : Str} {F : α} : ∀ {l : List (Str × α)}, l.lookup n = some F → (n, F) ∈ l
  | [], h => nomatch h
  | (m, G) :: l, h => by
    rw [List.lookup_cons] at h
    split at h
    · rename_i e
      cases h
      rw [beq_iff_eq.mp e]
      exact List.mem_cons_self ..
    · exact List.mem_cons_of_mem _ (lookup_in h)
theorem t_callV {i : Nat} {x : Str} {e : Expr} {es : List Expr} {p pos : Pos} {tbl : List (Str × Fn)} {g : M (List R)} (C : ∀ q ∈ tbl, CalA X.prog X.w X.K X.mg X.base k q.1 q.2) (hr : Room k X.A) (h : vB X.N X.env.scope i x = true) (hx : Lv X E) (ha : PA X (e :: es) (tA X.prog X.w X.K Tb g E)) (hs : (e :: es).all nst = true) :
    PE X (.Call (.Name x p) (e :: es) [] pos) (tE X.prog X.w X.K Tb (evCallV i tbl g) E) := by
  obtain ⟨hN, hv, hd, hcd⟩ := vB_ok h
  refine ⟨fun pins s σ H Q I ⟨c, Γ, S, q⟩ => ?_⟩
  unfold evCallV at q
  split at q
  · rename_i n en
    split at q
    · rename_i F eF
      obtain ⟨gm, np, Cc⟩ := C _ (lookup_in eF)
      obtain ⟨f, fd, ps, FO, hm, hk, hb⟩ := Cc.ex
      rw [gm] at hm
      cases hm
      have t := tCallE ⟨c, Γ, S, q⟩ Cc.len
      have h2 := Bool.and_eq_true_iff.mp hs
      refine wpAny_Call_Name_kw (thn ((pe_var (pos := p) hN hv hd hcd).run pins s σ H (fun v H1 => v = .ref (He.ga X.K n) ∧ H1 = H) I ⟨.ref _, S.fns i n en, rfl, rfl⟩) fun u s1 ⟨v, H1, I1, r1, q1⟩ => ?_)
      obtain ⟨rfl, rfl⟩ := q1
      cases r1
      refine PySem.W.callWith_K (h₀ := X.base) I.ok.mod.kin hk (thn (ha.run pos pins s1 σ _ _ I1 t) fun us s2 ⟨vs, H2, I2, r, q⟩ => ⟨I2.kIn, ?_⟩) (star_cons h2.1) (star_any h2.2)
      exact run_fn (fnOk_any FO Tb) hr hb .nil hx I2 r (by rw [List.append_nil]; exact q)
    · exact q.elim
  · exact q.elim
/-- the names of a tuple of defs -/
inductive FnNs (X : Cx) : List Expr → List Str → Prop
  | nil : FnNs X [] []
  | cons {n : Str} {pos : Pos} {es : List Expr} {ns : List Str} : gB X.env n = true → X.mg n = some (.ref (He.ga X.K n)) → FnNs X es ns → FnNs X (.Name n pos :: es) (n :: ns)
theorem pa_fnns : ∀ {es : List Expr} {ns : List Str}, FnNs X es ns → PA X es (fun σ H Q => Q (ns.map fun n => .ref (He.ga X.K n)) H)
  | _, _, .nil => PA.weak pa_nil fun σ H Q q => q
  | _, _, .cons (n := n) g m t => PA.weak (pa_cons (pe_glob (v := .ref (He.ga X.K n)) (gB_ok g).1 m rfl (gB_ok g).2) (pa_fnns t)) fun σ H Q q => q
def evForF (i : Nat) (b : M Fw) : List Str → M Fw
  | [], Γ => some (.ok (.nx, Γ))
  | n :: ns, Γ => if canSet Γ i then bnd (b (Γ.set i (.fn n))) fun fl Γ => match fl with
      | .nx => evForF i b ns Γ
      | .ct => evForF i b ns Γ
      | .bk => some (.ok (.nx, Γ))
      | .rt x => some (.ok (.rt x, Γ))
    else none
theorem SRel.setF (S : SRel P w K c Γ σ H) {i : Nat} {n : Str} (h : canSet Γ i = true) : SRel P w K c (Γ.set i (.fn n)) (σ.set i (some (.ref (He.ga K n)))) H := by
  have hi := canSet_lt h
  have hi' : i < σ.length := by rw [← S.len]; exact hi
  have old : ∀ {j : Nat} {f : Fl} {y : A}, (Γ.set i (.fn n))[j]? = some (.c f y) → j ≠ i ∧ Γ[j]? = some (.c f y) := fun {j f y} e => by
    by_cases hj : j = i
    · subst hj
      rw [List.getElem?_set_self hi] at e
      cases e
    · rw [List.getElem?_set_ne (Ne.symm hj)] at e
      exact ⟨hj, e⟩
  have cat : ∀ {j : Nat} {a : Addr}, CAt (Γ.set i (.fn n)) (σ.set i (some (.ref (He.ga K n)))) j a → CAt Γ σ j a := fun {j a} ⟨f, y, e1, hy, e2⟩ => by
    obtain ⟨hj, e1⟩ := old e1
    rw [List.getElem?_set_ne (Ne.symm hj)] at e2
    exact ⟨f, y, e1, hy, e2⟩
  refine ⟨by simp [S.len], fun j f y e => ?_, fun j k a h1 h2 => S.apart j k a (cat h1) (cat h2), S.frame, S.tabs, S.there, fun j a f y e hy e2 ho => ?_, fun j a f y e hy e2 ho => ?_, fun j m e => ?_⟩
  · obtain ⟨hj, e⟩ := old e
    rw [List.getElem?_set_ne (Ne.symm hj)]
    exact S.rep j f y e
  · obtain ⟨hj, e⟩ := old e
    rw [List.getElem?_set_ne (Ne.symm hj)] at e2
    exact S.own j a f y e hy e2 ho
  · obtain ⟨hj, e⟩ := old e
    rw [List.getElem?_set_ne (Ne.symm hj)] at e2
    exact S.bor j a f y e hy e2 ho
  · by_cases hj : j = i
    · subst hj
      rw [List.getElem?_set_self hi] at e
      cases e
      exact List.getElem?_set_self hi'
    · rw [List.getElem?_set_ne (Ne.symm hj)] at e ⊢
      exact S.fns j m e
/-- for x in (f, ..): a tuple of defs -/
theorem t_forF {i : Nat} {x : Str} {px : Pos} {es : List Expr} {kt : Nat} {pt pos : Pos} {ns : List Str} {body : List Stmt} {b : M Fw} (hp : PassesOwn (model X.prog X.w) X.A X.env X.xe) (hc : X.calm = true) (hN : X.N.Nodup) (hx : lB X.N X.env.scope X.fn i x = true) (hf : FnNs X es ns) (hl : ns.length ≤ lim)
    (hb : PSs X body (tS P w X.K Tb b E)) (hs : ∀ x, foldedSetIterable (.Tuple es kt pt) X.env x = pure x) : PS X (.For (.Name x px) (.Tuple es kt pt) body [] pos) (tS P w X.K Tb (evForF i b ns) E) := by
  obtain ⟨h1, h2, h3⟩ := lB_ok hx
  refine PS.weak (ps_for hp hc (pi_tup (pe_tup (pa_fnns hf))) (pg_name hN h1 h2 h3) hb hs) fun D σ H ⟨c, Γ, S, q⟩ => ⟨by rw [List.length_map, ← lim_eq]; exact hl, fun a ha => ?_⟩
  refine ⟨a, rfl, ⟨_, .inl (.inl upd_same)⟩, ?_⟩
  have sm := same_upd (o := .tup (ns.map fun n => V.ref (He.ga X.K n))) ha
  have hold : ∀ {H2 : Hp}, Pers (upd H a (.tup (ns.map fun n => V.ref (He.ga X.K n)))) H2 → SqT X.K H2 a (ns.map fun n => V.ref (He.ga X.K n)) := fun p => p.sqT (.inl (.inl upd_same))
  have wk : Walk (Itt X.K a) ns.length (fun H2 => Pers (upd H a (.tup (ns.map fun n => V.ref (He.ga X.K n)))) H2) fun j H2 y H3 => Same H2 H3 ∧ ∃ n, ns[j]? = some n ∧ y = .ref (He.ga X.K n) := by
    refine ⟨fun j H2 hj p => ⟨_, .ref (He.ga X.K ns[j]), hold p, by simp [hj]⟩, fun H2 p => ⟨_, hold p, by simp⟩, fun j H2 y H3 hj p hy => ?_⟩
    obtain ⟨e, hy⟩ := hy
    subst e
    have ev := hy _ (hold p)
    rw [List.getElem?_map] at ev
    cases en : ns[j]? with
    | none => rw [en] at ev; cases ev
    | some n => rw [en] at ev; cases ev; exact ⟨Same.refl _, n, rfl, rfl⟩
  have p0 : Pers H (upd H a (.tup (ns.map fun n => V.ref (He.ga X.K n)))) := Pers.same sm
  refine for_it wk (fun j σ' H2 => Pers (upd H a (.tup (ns.map fun n => V.ref (He.ga X.K n)))) H2 ∧ ∃ Γ', SRel P w X.K c Γ' σ' H2 ∧ Aft (evForF i b (ns.drop j) Γ') (fun x => XPost P w X.K c x E) fun fl Γ'' => SPost P w X.K c H D fl Γ'') ⟨Pers.refl _, Γ, S.same sm, q⟩ (fun j σ' H2 _ h => h.1) ?_ ?_
  · intro j y σ' H2 H3 hj ⟨p2, Γ', S', q⟩ ⟨sm2, n, en, ey⟩
    subst ey
    have e : ns.drop j = n :: ns.drop (j + 1) := by
      have := List.drop_eq_getElem_cons hj
      rw [this]
      rw [List.getElem?_eq_getElem hj] at en
      cases en
      rfl
    rw [e] at q
    unfold evForF at q
    split at q
    · rename_i hcs
      have pa := p2.trans (Pers.same sm2)
      refine ⟨c, _, (S'.same sm2).setF hcs, (Aft_bnd.mp q).imp fun fl Γ3 _ q => ?_⟩
      cases fl with
      | nx => exact fun σ4 H5 S4 p4 => ⟨pa.trans p4, Γ3, S4, q⟩
      | ct => exact fun σ4 H5 S4 p4 => ⟨pa.trans p4, Γ3, S4, q⟩
      | bk => exact fun σ4 H5 S4 p4 => (show SPost P w X.K c H D .nx Γ3 from q) σ4 H5 S4 (p0.trans (pa.trans p4))
      | rt x => exact fun v σ4 H5 S4 p4 r => (show SPost P w X.K c H D (.rt x) Γ3 from q) v σ4 H5 S4 (p0.trans (pa.trans p4)) r
    · exact q.elim
  · intro σ' H2 ⟨p2, Γ', S', q⟩
    rw [List.drop_length] at q
    exact (show SPost P w X.K c H D .nx Γ' from q) σ' H2 S' (p0.trans p2)
end
end Iv
set_option Elab.async false
set_option linter.all false
set_option maxRecDepth 100000
set_option maxHeartbeats 1000000
/-! Iv: promises that hold where no repr is under way; the law's entry. -/
namespace Iv
open PySem L2 PyProof.Rows
section
variable {P : Program} {w : World} {K : PySem.W.Frag} {mg : Str → Option Value} {base : Heap} {CX : CXT} {k : Nat} {f : Addr} {fd : FuncData} {ps N : List Str} {sp : Sp}
/-- FnOk, asked only where no repr is under way -/
structure FnOkG (P : Program) (w : World) (K : PySem.W.Frag) (mg : Str → Option Value) (base : Heap) (CX : CXT) (k : Nat) (f : Addr) (fd : FuncData) (ps : List Str) (sp : Sp) : Prop where
  len : ∀ vs H Q E, sp vs H Q E → vs.length = ps.length
  run : ∀ {A : Around} {outer : List PySem.Env} {s : Shared} {H : Hp} {args : Args} {us : List Value} {vs : List V} {Q : VK} {E : XK}, A.guards = some [] → Room k A → Env0 P w K mg base A outer s H → BindsTo s fd args (ps.zip us) → Vals vs us → sp vs H Q E →
    codeAny (model P w) A (.call (.ref f) args) (CR CX outer P w H s Q E) s
theorem FnOkG.mono {j : Nat} (F : FnOkG P w K mg base CX j f fd ps sp) (h : j ≤ k) : FnOkG P w K mg base CX k f fd ps sp := ⟨F.len, fun g r => F.run g (r.mono h)⟩
theorem FnOk.g (F : FnOk P w K mg base CX k f fd ps sp) : FnOkG P w K mg base CX k f fd ps sp := ⟨F.len, fun _ r => F.run _ _ _ _ _ _ _ _ _ r⟩
/-- a def's promise there: its body may ask for the guards, for the code object -/
theorem fn_okG {name qual : Str} {params : Arguments} {body : List Stmt} {scope : Scope} {key : Str × Option Str} (F : FunD K name qual params body scope [] [] (He.fAd K key) fd) (S : FnScope N ps scope) (len : ∀ vs H Q E, sp vs H Q E → vs.length = ps.length)
    (hbody : ∀ (A : Around) (outer : List PySem.Env) (s : Shared) (H : Hp) (vs : List V) (Q : VK) (E : XK), A.guards = some [] → Room k (A.deeper (envOfC qual scope s.heap.objs.size (He.fAd K key) (.ref (He.codeOf K key)))) → sp vs H Q E →
      ∃ t, PSs (cxOf CX P w K mg base N qual scope (He.fAd K key) (.ref (He.codeOf K key)) A outer s H E) body t ∧ t { nx := fun _ H' => Q .non H', rt := Q } (L2.start N vs) H) :
    FnOkG P w K mg base CX (k + 1) (He.fAd K key) fd ps sp := by
  obtain ⟨oc, od, dV, kV, doc, pm, an, cdv, ct, osl, rfl, lk, hcd, _, _⟩ := F.ex
  obtain ⟨cc, rfl⟩ := He.codeIn_ref hcd
  have ec : He.codeOf K key = cc := He.codeOf_eq lk rfl
  rw [ec] at hbody
  refine ⟨len, fun {A outer s H args us vs Q E} g hr e0 hb rv hsp => ?_⟩
  have up : ∀ {b : Addr} {o : Obj}, base.get? b = some o → s.heap.get? b = some o := fun {b o} z => (e0.bs b o z).1
  have inS : K.In s.heap := e0.mod.kin.keeps fun b o z => up z
  refine codeAny_call_function hr.depth (inS _ _ lk) rfl S.co S.gen rfl (PySem.W.codeRec_of inS hcd) (hb _ _ _ _ ?_)
  refine wpAny_newFunctionEnv_cells S.kind (fun y hy => ?_) fun env he s1 x => ?_
  · obtain ⟨n, v⟩ := y
    exact (S.par n (List.of_mem_zip hy).1).imp id fun q => ⟨q, PySem.W.cellsFrom_some _ _ _ (.inl q)⟩
  · subst he
    refine ⟨(e0.mod.nolimit.keeps fun b o z => up z).keeps x.toInCall.keep, codeAny_func ?_⟩
    obtain ⟨t, ht, hq⟩ := hbody A outer s H vs Q E g (hr.deeper _) hsp
    refine wpAny_mono (ht.run [] s1 _ H _ (inv_start S hr.hd e0 (len _ _ _ _ hsp) rv x) hq) (fun fl s' z => ?_) fun e s' z => z
    cases fl with
    | ret u => obtain ⟨v, σ', H', J, r, q⟩ := z; exact ⟨v, H', J.os, J.bare, J.base, J.hok, r, q⟩
    | next => obtain ⟨σ', H', J, q⟩ := z; exact ⟨.non, H', J.os, J.bare, J.base, J.hok, rfl, q⟩
    | brk => obtain ⟨_, _, _, q⟩ := z; exact q.elim
    | cont => obtain ⟨_, _, _, q⟩ := z; exact q.elim
end
section
variable {X : Cx} {Tb : List (Addr × Str)} {E : XK} {k np : Nat} {f : Addr} {fd : FuncData} {ps : List Str}
/-- a call of such a def -/
theorem t_callG {x : Str} {e : Expr} {es : List Expr} {p pos : Pos} {F : Fn} {g : M (List R)} (FO : FnOkG X.prog X.w X.K X.mg X.base (L2.CX X.prog X.w) k f fd ps (FnSp X.prog X.w X.K Tb np F)) (gd : X.A.guards = some []) (hr : Room k X.A) (h : gB X.env x = true) (hm : X.mg x = some (.ref f)) (hk : PySem.W.keepIn X.K (.ref f) = true)
    (hb : Binds X.K fd ps []) (hx : Lv X E) (ha : PA X (e :: es) (tA X.prog X.w X.K Tb g E)) (hF : ∀ as r, F as = some r → as.length = np) (hs : (e :: es).all nst = true) :
    PE X (.Call (.Name x p) (e :: es) [] pos) (tE X.prog X.w X.K Tb (evCall F g) E) := by
  have h2 := Bool.and_eq_true_iff.mp hs
  refine ⟨fun pins s σ H Q I q => wpAny_Call_Name_kw (ld_glob I (gB_ok h).1 hm ?_ (gB_ok h).2)⟩
  refine PySem.W.callWith_K (h₀ := X.base) I.ok.mod.kin hk (thn (ha.run pos pins s σ H _ I (tCallE q hF)) fun us s1 z => ?_) (star_cons h2.1) (star_any h2.2)
  obtain ⟨vs, H1, I1, r, q⟩ := z
  have hl : us.length = ps.length := by rw [← r.length]; exact FO.len _ _ _ _ q
  have hb1 := hb s1 us I1.kIn (by simpa using hl)
  rw [List.append_nil] at hb1
  refine ⟨I1.kIn, wpAny_call (codeAny_mono (FO.run gd hr I1.env0 hb1 r q) fun rr s' hq => ?_)⟩
  match rr, hq with
  | .error er, hq => exact hx pins σ H1 s1 er s' I1 hq
  | .ok (.ret u), hq => exact I1.after hq
end
/-! ### the entry -/
/-- the head lays no list -/
def noList (K : PySem.W.Frag) : Bool := K.all fun p => match p.2.cls with
  | .type c => decide (c ≠ "list")
  | _ => true
theorem noList_ok {K : PySem.W.Frag} (h : noList K = true) {a : Addr} {o : Obj} (e : K.lookup a = some o) : o.cls ≠ .type "list" := fun z => by
  have := List.all_eq_true.mp h (a, o) (He.lookup_mem e)
  simp only [z] at this
  exact of_decide_eq_true this rfl
section
variable {P : Program} {w : World} {K : PySem.W.Frag} {mg mb : Str → Option Value} {CX : CXT} {k : Nat} {fa a : Addr} {cs : List (Addr × Addr)} {fd : FuncData} {x : Str} {sp : Sp} {s : Shared} {vs : List Value} {ns : List Int}
/-- neither a list nor a bare table -/
def offB : Data → Bool
  | .seq _ _ => false
  | .fields vs => !vs.isEmpty
  | _ => true
theorem entry (KX : K.In s.heap) (hns : s.heap.Ns mainGlobals mg) (hb : s.heap.Ns builtinsNs mb) (hbb : ∀ x : Str, x ≠ "__name__" → mb x = bootBuiltins x) (hlim : s.heap.NoLimit) (hg : s.gens = #[])
    (hT : ∀ p ∈ cs, s.heap.get? p.2 = some { cls := .none, data := .fields #[] }) (nT : ∀ p ∈ cs, K.lookup p.2 = none) (C : ∀ p ∈ cs, PySem.W.CodeHd s.heap p.1 p.2)
    (hbm : ∃ (bm : Addr) (ob : Obj), mg "__builtins__" = some (.ref bm) ∧ bm ≠ builtinsNs ∧ s.heap.get? bm = some ob ∧ ob.cls = .type "module" ∧ ob.dict = some builtinsNs ∧ ob.data = .plain)
    (ha : s.heap.get? a = some { cls := .type "list", data := .seq vs.toArray }) (hi : IntsAre vs ns) (hl : ns.length ≤ sizeLine) :
    ∃ H : Hp, (∀ p ∈ cs, H p.2 = some (.tbl #[])) ∧ (K.lookup a = none → ∃ o, H a = some (.frz o (.lst (ns.map V.int)))) ∧ K.In (hidT s.heap H) ∧ (hidT s.heap H).Ns mainGlobals mg ∧ (∀ p ∈ cs, LamX.TabB (hidT s.heap H) mg p.1 p.2) ∧ Env0 P w K mg (hidT s.heap H) callerA [] s H ∧
      ∀ (s' : Shared) (H' : Hp), Un [] [] H H' s.heap s'.heap → HOk P w H' s'.heap → OldK s.heap s'.heap := by
  classical
  let T : Addr → Prop := fun b => ∃ p ∈ cs, p.2 = b
  let lo : Obj := { cls := .type "list", data := .seq vs.toArray }
  let H : Hp := fun b => if T b then some (.tbl #[]) else if b = a ∧ K.lookup a = none then some (.frz lo (.lst (ns.map V.int))) else none
  have tabAt : ∀ {b}, T b → s.heap.get? b = some { cls := .none, data := .fields #[] } := fun ⟨p, hp, e⟩ => e ▸ hT p hp
  have aT : ¬ T a := fun z => by
    have q := (tabAt z).symm.trans ha
    exact Data.noConfusion (congrArg Obj.data (Option.some.inj q))
  have atT : ∀ {b}, T b → H b = some (.tbl #[]) := fun z => if_pos z
  have what : ∀ {b u}, H b = some u → (T b ∧ u = .tbl #[]) ∨ (b = a ∧ K.lookup a = none ∧ u = .frz lo (.lst (ns.map V.int))) := fun {b u} z => by
    by_cases h1 : T b
    · exact .inl ⟨h1, Option.some.inj (z.symm.trans (atT h1))⟩
    · have z := (if_neg h1).symm.trans z
      by_cases h2 : b = a ∧ K.lookup a = none
      · exact .inr ⟨h2.1, h2.2, (Option.some.inj ((if_pos h2).symm.trans z)).symm⟩
      · cases (if_neg h2).symm.trans z
  have off : ∀ {b o}, s.heap.get? b = some o → offB o.data = true → H b = none := fun {b o} e d => by
    cases z : H b with
    | none => rfl
    | some u =>
      rcases what z with ⟨h1, _⟩ | ⟨h1, _, _⟩
      · rw [tabAt h1] at e; cases e; cases d
      · rw [h1, ha] at e; cases e; cases d
  have get : ∀ {b o}, s.heap.get? b = some o → offB o.data = true → (hidT s.heap H).get? b = some o := fun e d => hidT_get e (off e d)
  have nsOf : ∀ {b m}, s.heap.Ns b m → (hidT s.heap H).Ns b m := fun ⟨o, es, ep, e, d, r⟩ => ⟨o, es, ep, get e (by rw [d]; rfl), d, r⟩
  have kOf : K.In (hidT s.heap H) := fun b o e => by
    refine hidT_get (KX b o e) ?_
    cases z : H b with
    | none => rfl
    | some u =>
      rcases what z with ⟨⟨p, hp, ep⟩, _⟩ | ⟨h1, h2, _⟩
      · rw [← ep, nT p hp] at e; cases e
      · rw [h1, h2] at e; cases e
  have okH : HOk P w H s.heap := fun b u z => by
    rcases what z with ⟨h1, rfl⟩ | ⟨rfl, _, rfl⟩
    · exact tabAt h1
    · exact ⟨ha, by rw [List.length_map]; exact hl, vs, _, vals_ints hi, ha⟩
  have nilb : ∀ {b : Addr}, b ∉ ([] : List Addr) := by simp
  have modG : ∀ {b : Addr}, (∃ ob, s.heap.get? b = some ob ∧ ob.data = .plain) → b ≠ mainGlobals := fun ⟨ob, h1, h2⟩ z => by
    obtain ⟨o, es, ep, e, d, _⟩ := hns
    rw [z, e] at h1
    rw [← Option.some.inj h1, d] at h2
    cases h2
  refine ⟨H, fun p hp => atT ⟨p, hp, rfl⟩, ?_, kOf, nsOf hns, fun p hp => ⟨?_, ?_, fun z => ?_⟩, ⟨rfl, ⟨kOf, nsOf hns, ⟨mb, nsOf hb, hbb⟩, let ⟨mc, l1, l2⟩ := hlim; ⟨mc, nsOf l1, l2⟩⟩, fun b o e => of_hidT e, Nat.le_of_eq (hidT_size _ _), trivial, fun b z => (nilb z).elim, okH, .of_eq hg⟩, fun s' H' un ok' => ?_⟩
  · exact fun q => ⟨lo, (if_neg aT).trans (if_pos ⟨rfl, q⟩)⟩
  · obtain ⟨o, us, file, tf, flags, tg, inF, text, tt, e1, r1, r2, r3, r⟩ := C p hp
    refine ⟨o, us, file, tf, flags, tg, inF, text, tt, get e1 ?_, r1, r2, r3, r⟩
    rw [r2]
    show (!us.isEmpty) = true
    cases hu : us.isEmpty with
    | false => rfl
    | true =>
      have : us = #[] := by simpa using hu
      subst this
      simp at r3
  · obtain ⟨bm, ob, b1, b2, b3, b4, b5, b6⟩ := hbm
    exact ⟨bm, ob, b1, b2, modG ⟨ob, b3, b6⟩, (fun z => by rw [z, hT p hp] at b3; cases b3; cases b6), get b3 (by rw [b6]; rfl), b4, b5, b6⟩
  · obtain ⟨o, es, ep, e, d, _⟩ := hns
    rw [z, hT p hp] at e
    cases e
    cases d
  · have stays : ∀ {b o}, ¬ T b → s.heap.get? b = some o → s'.heap.get? b = some o := fun {b o} nb e => by
      cases z : H b with
      | none => exact un.keep b o e z nilb nilb
      | some u =>
        rcases what z with ⟨h1, _⟩ | ⟨_, _, rfl⟩
        · exact absurd h1 nb
        · have e1 := (okH b _ z).1
          have e2 := (ok' b _ (un.frzs b _ _ z)).1
          rw [e1] at e
          cases e
          exact e2
    have grows : ∀ {b}, T b → ∃ more : Array Value, s'.heap.get? b = some { cls := .none, data := .fields more } := fun {b} z => by
      obtain ⟨more, e⟩ := un.tbls b #[] (atT z)
      exact ⟨_, ok' b _ e⟩
    refine ⟨fun b o e => ?_, fun b o e => ?_⟩
    · by_cases hb : T b
      · obtain ⟨more, hm⟩ := grows hb
        have e0 := tabAt hb
        obtain ⟨p, hp, ep⟩ := hb
        rw [e0] at e
        cases e
        exact .inr (.inl ⟨by rw [← ep]; exact ((C p hp).tab (hT p hp)).isCodeTable, rfl, #[], more, rfl, by rw [Array.empty_append]; exact hm⟩)
      · exact .inl (stays hb e)
    · by_cases hb : T b
      · obtain ⟨more, hm⟩ := grows hb
        exact ⟨_, hm⟩
      · exact ⟨o, stays hb e⟩
end
/-- what is known of the law's promise at the head's heap -/
def LawAtG (l : PySem.W.OpenLaw) (w : World) (K : PySem.W.Frag) (CX : CXT) (k n : Nat) (x : Str) (mg : Str → Option Value) (fa : Addr) (h : Heap) : Prop :=
  noList K = true ∧ ∃ (fd : FuncData) (cs : List (Addr × Addr)) (sp : Sp), (∀ p ∈ cs, h.get? p.2 = some { cls := .none, data := .fields #[] } ∧ K.lookup p.2 = none ∧ PySem.W.CodeHd h p.1 p.2) ∧ (∀ (s : Shared) (u : Value), BindsTo s fd ⟨[u], []⟩ [(x, u)]) ∧
    (∀ {H : Hp} {a : Addr} {ns : List Int}, ns.length ≤ n → (∀ z ∈ ns, Builtin.Int.intBits z ≤ 1048576) → (∀ p ∈ cs, H p.2 = some (.tbl #[])) → (∃ o, H a = some (.frz o (.lst (ns.map V.int)))) → sp [.ref a] H (fun v _ => v = .bl true) fun _ _ _ => False) ∧
    ∀ {base : Heap}, K.In base → base.Ns mainGlobals mg → (∀ p ∈ cs, LamX.TabB base mg p.1 p.2) → FnOkG l.prog w K mg base CX k fa fd [x] sp
theorem walkG {l : PySem.W.OpenLaw} {n k : Nat} {q : Program} {loose : List Str} {XP : (Str → Option Value) → Heap → Prop} {YP : World → Heap → Prop} {d : DefRec} {CX : World → CXT} {x : Str} (hn : l.most = some n) (hn2 : n ≤ sizeLine) (hdf : d.params.defaults = []) (hr : Room k callerA)
    (F : ∀ {w : World} {mg : Str → Option Value} {fa : Addr} {h : Heap}, YP w h → h.Ns mainGlobals mg → mg d.name = some (.ref fa) → ∃ K : PySem.W.Frag, K.In h ∧ LawAtG l w K (CX w) k n x mg fa h)
    (hCX : ∀ {w : World} {H : Hp} {s : Shared} {e : Value} {s' : Shared}, ¬ CX w [] H s (fun _ _ _ => False) e s') : PySem.W.WalkO q loose XP YP l.row.toRowW d [] (fun f vs => PySem.call f vs) := by
  refine Att.attach_callB hn hdf fun w s₀ s₁ mg mb fa o pm cd doc a vs ns G Y ho hd hcd hmg hobj hints hlen hbits hg => ?_
  obtain ⟨K, KX, nl, fd, cs, sp, hT, hb, hsp, hF⟩ := F Y G.T.g hmg
  have ka : K.lookup a = none := by
    cases q : K.lookup a with
    | none => rfl
    | some o => exact absurd (congrArg Obj.cls (Option.some.inj ((KX a o q).symm.trans hobj))) (noList_ok nl q)
  obtain ⟨H, hH, hS, k1, k2, tb, e0, fin⟩ := entry (P := l.prog) (w := w) KX G.T.g G.T.b G.T.builtins G.T.nolimit hg (fun p z => (hT p z).1) (fun p z => (hT p z).2.1) (fun p z => (hT p z).2.2) G.T.bmain hobj hints (Nat.le_trans hlen hn2)
  refine codeAny_mono ((hF k1 k2 tb).run (us := [.ref a]) (vs := [.ref a]) rfl hr e0 (hb s₁ (.ref a)) (.cons rfl .nil) (hsp hlen hbits hH (hS ka))) fun r s' z => ?_
  match r, z with
  | .error e, z => exact (hCX z).elim
  | .ok (.ret u), ⟨v, H', os, bare, un, ok', rv, q⟩ =>
    subst q
    cases rv
    exact ⟨rfl, fin s' H' un ok', os, bare⟩
end Iv
set_option Elab.async false
set_option linter.all false
set_option maxRecDepth 100000
set_option maxHeartbeats 1000000
/-! Iv: rules for printed proofs, the third part: lambdas handed to a def that catches. -/
namespace Iv
open PySem L2 LamX
section
variable {X : Cx} {Tb : List (Addr × Str)} {E : XK} {k : Nat}
/-- x(lambda: body), x a def of the row's top -/
theorem t_lam {h : Exc → Option Iv.D} {x a q : Str} {g cc PP : Addr} {fd : FuncData} {pg : Arguments} {bg : List Stmt} {sg : Scope} {Ng : List Str} {params : Arguments} {body : Expr} {scope : Scope} {f : M R} {p lpos pos : Pos}
    (F : FunD X.K x x pg bg sg [] [] g fd) (hm : X.mg x = some (.ref g)) (hb : L2.Binds X.K fd [a] []) (Sg : FnScope Ng [a] sg) (hNg : vB Ng sg 0 a = true) (hG : ∀ cdv : Value, GivesTo X Ng x sg g cdv bg a q (TTmet X.prog X.w X.K h))
    (TB : TabB X.base X.mg cc PP) (hq : X.env.qual ++ "<lambda>" = q) (hcode : X.env.code = .ref cc) (hr : Room (k + 2) X.A) (hg : gB X.env x = true) (L : lamSB X.env.scope scope = true) (hdef : defaultsOf params X.env = ([], []))
    (hbind : ∀ (q : Str) (cl : List (Str × Addr)) (pm cv ctv : Value), bindArgs (PySem.W.kla_fn "<lambda>" q params body scope cl pm cv ctv) ⟨[], []⟩ = pure [])
    (hbody : ∀ (A : Around) (outer : List PySem.Env) (s : Shared) (H : Hp) (E : XK) (f' c' : Addr), Room k (A.deeper (lamEnv X scope s.heap.objs.size f' c')) → PE (lamCx X A outer s H E scope f' c') body (tE X.prog X.w X.K [(PP, q)] f E)) :
    PE X (.Call (.Name x p) [.Lambda params body scope lpos] [] pos) (tE X.prog X.w X.K [(PP, q)] (evLam h f) E) := by
  subst hq
  obtain ⟨n1, n2, n3, n4⟩ := vB_ok hNg
  have kp := F.kp
  obtain ⟨oc, od, dV, kV, doc, pm, an, cdv, ct, osl, rfl, lk, hcd, _, _⟩ := F.ex
  exact pe_lamE (gB_ok hg).1 hm kp lk hcd hb Sg n1 n2 (hG cdv) TB hcode (List.mem_singleton.mpr rfl) (fun z hz _ => by rw [List.mem_singleton.mp hz]) hr (lamS_by L) hdef hbind hbody (gB_ok hg).2 n3 n4
end
theorem all_nil {α : Type} {p : α → Prop} : ∀ q ∈ ([] : List α), p q := fun _ h => (nomatch h)
theorem all_cons {α : Type} {p : α → Prop} {a : α} {l : List α} (h : p a) (t : ∀ q ∈ l, p q) : ∀ q ∈ a :: l, p q := fun q hq => (List.mem_cons.mp hq).elim (fun e => e ▸ h) (t q)
/-- what is told of the classes -/
def exmB (K : PySem.W.Frag) (ys es : List Str) (ex : Str → Str → Bool) : Bool := ys.all fun y => es.all fun e => decide (PySem.W.exmOne K (.ref (He.ga K y)) (.ref (He.ga K e)) = some (ex y e))
theorem exmB_ok {K : PySem.W.Frag} {ys es : List Str} {ex : Str → Str → Bool} (h : exmB K ys es ex = true) {y e : Str} (hy : y ∈ ys) (he : e ∈ es) : PySem.W.exmOne K (.ref (He.ga K y)) (.ref (He.ga K e)) = some (ex y e) :=
  of_decide_eq_true (List.all_eq_true.mp (List.all_eq_true.mp h y hy) e he)
/-- a def's promise with its own code object's table, where no repr is under way -/
theorem callG_of {Pg : Program} {w : World} {K : PySem.W.Frag} {mg : Str → Option Value} {base : Heap} {x qual : Str} {st : Stmt} {fd : FuncData} {N ps : List Str} {k : Nat} {b : M Fw} {Tb : List (Addr × Str)} {key : Str × Option Str} (F : FunD K x qual (defArgs st) (defBody st) (defScope st) [] [] (He.fAd K key) fd) (S : FnScope N ps (defScope st))
    (hbody : ∀ (A : Around) (outer : List PySem.Env) (s : Shared) (H : Hp) (E : XK), A.guards = some [] → Room k (A.deeper (PyProof.Rows.envOfC qual (defScope st) s.heap.objs.size (He.fAd K key) (.ref (He.codeOf K key)))) →
      PSs (cxOf (L2.CX Pg w) Pg w K mg base N qual (defScope st) (He.fAd K key) (.ref (He.codeOf K key)) A outer s H E) (defBody st) (tS Pg w K Tb b E)) :
    FnOkG Pg w K mg base (L2.CX Pg w) (k + 1) (He.fAd K key) fd ps (FnSp Pg w K Tb ps.length (evFn ps.length N.length b)) :=
  fn_okG F S (fun vs H Q E ⟨_, as, hl, ar, _⟩ => by rw [ar.len, hl]) fun A outer s H vs Q E g hr h => ⟨_, hbody A outer s H E g hr, tS_fn h⟩
end Iv
set_option Elab.async false
set_option linter.all false
set_option maxRecDepth 100000
set_option maxHeartbeats 2000000
/-! Iv: several except clauses, some of them with a name; an own class's __init__ that calls an own base's. -/
namespace Iv
open PySem PySem.Spec L2 LamX PyProof.Rows
/-- a clause: its class, the slot of its name, what its suite does -/
abbrev Cla := PySem.Value × Option Nat × (Addr → PySem.Value → Option Addr → TS)
/-- the ends of a suite behind which slot i is empty -/
def goneD (i : Nat) (D : Ends) : Ends := { nx := fun σ H => D.nx (σ.set i none) H, rt := D.rt, bk := fun σ H => D.bk (σ.set i none) H, ct := fun σ H => D.ct (σ.set i none) H }
def inSuite (D : Ends) (a : Addr) (cls : PySem.Value) (d : Option Addr) (σ : L2.St) (H : Hp) : Cla → Prop
  | (_, none, ts) => ts a cls d D σ H
  | (_, some i, ts) => ts a cls d (goneD i D) (σ.set i (some (.ref a))) H
def wMA (K : PySem.W.Frag) (n : Nat) (Wout : WX) (D : Ends) : List Cla → WX
  | [] => Wout
  | z :: r => fun cls d σ H => σ.length = n → ∃ b, PySem.W.exmOne K cls z.1 = some b ∧ (b = true → ∀ a, H a = none → inSuite D a cls d σ H z) ∧ (b = false → wMA K n Wout D r cls d σ H)
inductive ClasOk (X : Cx) : List ExceptHandler → List Cla → Prop
  | nil : ClasOk X [] []
  | cons {x : Str} {c : PySem.Value} {nm : Option Str} {oi : Option Nat} {ts : Addr → PySem.Value → Option Addr → TS} {b₀ : Stmt} {suite : List Stmt} {np pos' : Pos} {hds : List ExceptHandler} {l : List Cla} (hc : L2.Names X x c)
      (hn : (nm = none ∧ oi = none) ∨ ∃ n i, nm = some n ∧ oi = some i ∧ X.N.Nodup ∧ X.N[i]? = some n ∧ X.env.kindOf n = some .local)
      (hsu : ∀ (a : Addr) (oe : Obj) (cls : PySem.Value) (d : Option Addr) (pn : List (Addr × Obj)), Zc cls d oe → (∃ vs, oe.data = .fields vs) → PSs (X.suite a ((a, oe) :: pn)) (b₀ :: suite) (ts a cls d)) (r : ClasOk X hds l) :
      ClasOk X (.ExceptHandler (some (.Name x np)) nm (b₀ :: suite) pos' :: hds) ((c, oi, ts) :: l)
section
variable {X : Cx} {body : List Stmt} {h₀ : ExceptHandler} {hds : List ExceptHandler} {l : List Cla} {pos : Pos} {tb : WX → TS} {Wout : WX}
/-- what holds where a suite of the exception at a may begin -/
def Atsu (X : Cx) (pins : List (Addr × Obj)) (a : Addr) (cls : PySem.Value) (d : Option Addr) (σ : L2.St) (H : Hp) (s : Shared) : Prop :=
  ∃ oe vs, s.heap.get? a = some oe ∧ Zc cls d oe ∧ oe.data = .fields vs ∧ Inv (X.suite a ((a, oe) :: (X.pn ++ pins))) [] σ H s
theorem ps_try_mas (hs : X.stack = X.env :: X.outer) (hf : X.env.frame = some X.env.locals) (tk : Takes X Wout)
    (hb : ∀ (W : WX) (pn : List (Addr × Obj)) (xe : PySem.Value → Shared → Prop), Takes (X.tr pn xe) W → PassesOwn (model X.prog X.w) X.A X.env xe → PSs (X.tr pn xe) body (tb W))
    (hh : ClasOk X (h₀ :: hds) l) : PS X (.Try body (h₀ :: hds) [] [] pos) (fun D σ H => tb (wMA X.K X.N.length Wout D l) D σ H) := by
  refine ⟨fun pins s σ H D I h => ?_⟩
  have ok := I.ok
  have hfr : X.A.frames = some (X.env :: X.outer) := by rw [ok.frames, hs]
  let caught : PySem.Value → Shared → Prop := fun e s₁ => wpAny (model X.prog X.w) X.A (noteFrame e X.env) (fun _ s₂ => wpAny (model X.prog X.w) X.A (setFlight e none) (fun _ s₃ => wpAny (model X.prog X.w) X.A (handleBy e X.env (h₀ :: hds)) (SP X pins D) X.xe s₃) X.xe s₂) X.xe s₁
  have land : Takes (X.tr (X.pn ++ pins) caught) (wMA X.K X.N.length Wout D l) := by
    intro u s' ⟨a, B, sI, pins', σ', H', cls, d, eu, J', nb, up, sky, na, os, ag, w⟩
    subst eu
    have J : Inv X pins σ' H' sI := J'.ofTry ok
    have sky2 : Sky B (X.env :: X.outer) a (Zc cls d) X.env.locals s'.heap := by rw [← hs]; exact sky
    show wpAny (model X.prog X.w) X.A (noteFrame (.ref a) X.env) _ _ _
    refine Sky.land Zc.steady hfr hf sky2 fun h3 fl3 up3 => ?_
    have atsu : ∀ {h4 : Heap}, HandSPX.FlyingZ B (X.env :: X.outer) a (Zc cls d) h4 → s'.heap.UpToSlots h4 → Inv X pins σ' H' { s' with heap := h4 } ∧ Atsu X pins a cls d σ' H' { s' with heap := h4 } := fun {h4} fl up4 => by
      have J4 : Inv X pins σ' H' { s' with heap := h4 } := J.landed nb fl.1 (up.trans up4) os ag
      obtain ⟨oe, vs, he, hz, hd⟩ := fl.there
      have nfr : a ∉ frs (X.env :: X.outer) := fun hm => by
        obtain ⟨_, o2, e2, hnf⟩ := fl.2.2.1.mem hm
        rw [he] at e2
        cases e2
        exact hnf _ hd
      have nL : a ≠ X.env.locals := fun z => nfr (List.mem_filterMap.mpr ⟨X.env, List.mem_cons_self, by rw [hf, z]⟩)
      have nF : a ∉ X.fs := fun hm => by
        obtain ⟨e, he, q⟩ := List.mem_filterMap.mp hm
        exact nfr (List.mem_filterMap.mpr ⟨e, List.mem_cons_of_mem _ he, q⟩)
      exact ⟨J4, oe, vs, he, hz, hd, J4.suite he hd na nL nF⟩
    obtain ⟨J3, oe3, vs3, he3, hz3, hd3, S3⟩ := atsu fl3 up3
    have asked : ∀ {hd2 : List ExceptHandler} {l2 : List Cla}, ClasOk X hd2 l2 → wMA X.K X.N.length Wout D l2 cls d σ' H' → wpAny (model X.prog X.w) X.A (handleBy (.ref a) X.env hd2) (SP X pins D) X.xe { s' with heap := h3 } := by
      intro hd2 l2 hk
      induction hk with
      | nil =>
        intro w
        refine wpAny_handleBy_nil ?_
        obtain ⟨k1, k2, k3, oe, vs, T, oT, ts', he, hz, hd, h1, hr⟩ := id fl3
        unfold PySem.passOn
        refine wpAny_bind (wpAny_field he hd h1 ?_)
        rw [if_neg (show ¬ ((PySem.Value.ref T == PySem.Value.none) = true) from by simp)]
        have fin : wpAny (model X.prog X.w) X.A (setFlight (.ref a) X.env.frame) (fun _ s4 => wpAny (model X.prog X.w) X.A (throw (.ref a) : Sem Flow) (SP X pins D) X.xe s4) X.xe { s' with heap := h3 } := by
          rw [hf]
          exact HandSPX.setFlight_upZ fl3 fun h4 hh4 up4 => wpAny_throw (tk _ _ ⟨a, B, sI, pins, σ', H', cls, d, rfl, J, nb, (up.trans up3).trans up4, .inr (.inr (by rw [hs]; exact hh4)), na, os, ag, w⟩)
        first
          | exact wpAny_bind (wpAny_pure (wpAny_bind fin))
          | exact wpAny_bind fin
      | @cons x c nm oi ts b₀ suite np pos' hds2 l2 hc hn hsu r ih =>
        intro w
        obtain ⟨b, hb1, hyes, hno⟩ := w J.len
        refine wpAny_handleBy_cons (codeAny_handlers_test ?_) (by intro q; cases q)
        have look : PySem.W.Looks (model X.prog X.w) h3 (typeOf (.ref a)) cls := fun A Q E s k q => wpAny_typeOf_ref (k _ _ he3) (by rw [hz3.1]; exact q)
        have match1 := PySem.W.exm_one (M := model X.prog X.w) (J3.kIn) look hb1
        have named : ∀ {Q E : PySem.Value → Shared → Prop}, Q c { s' with heap := h3 } → wpAny (model X.prog X.w) (X.A.mark (some (.ref a))) (eval (.Name x np) X.env) Q E { s' with heap := h3 } := fun {Q E} q => by
          obtain ⟨hg, hdbg, hm | ⟨hm, hv, hnn⟩⟩ := hc
          · exact ld_glob (X := X.suite a ((a, oe3) :: (X.pn ++ pins))) S3 hg hm q hdbg
          · exact ld_blt (X := X.suite a ((a, oe3) :: (X.pn ++ pins))) S3 hg hm hv q hnn hdbg
        refine named (match1.here ?_)
        cases b with
        | false => exact ih (hno rfl)
        | true =>
          have su := hyes rfl a na
          rcases hn with ⟨rfl, rfl⟩ | ⟨n, i, rfl, rfl, hN, hi, hln⟩
          · refine codeAny_handlers_suite (HandSPX.lands_againZ fl3 fun h4 fl4 up4 => ?_)
            obtain ⟨_, oe4, vs4, he4, hz4, hd4, S4⟩ := atsu fl4 (up3.trans up4)
            refine wpAny_mono ((hsu a oe4 cls d (X.pn ++ pins) hz4 ⟨_, hd4⟩).run [] _ _ H' _ S4 su) (fun f s6 hsp => ?_) (fun _ _ z => False.elim z)
            cases f with
            | next => exact let ⟨_, _, S6, q6⟩ := hsp; ⟨_, _, S6.unsuite ok, q6⟩
            | brk => exact let ⟨_, _, S6, q6⟩ := hsp; ⟨_, _, S6.unsuite ok, q6⟩
            | cont => exact let ⟨_, _, S6, q6⟩ := hsp; ⟨_, _, S6.unsuite ok, q6⟩
            | ret u => exact let ⟨_, _, _, S6, r6, q6⟩ := hsp; ⟨_, _, _, S6.unsuite ok, r6, q6⟩
          · refine codeAny_handlers_suite_as (HandSPX.lands_againZ fl3 fun h4 fl4 up4 => ?_)
            obtain ⟨_, oe4, vs4, he4, hz4, hd4, S4⟩ := atsu fl4 (up3.trans up4)
            refine store_ok (X := X.suite a ((a, oe4) :: (X.pn ++ pins))) (v := .ref a) S4 hN hi (.inl hln) rfl (fun s5 S5 => ?_) (.inr hln)
            refine wpAny_mono ((hsu a oe4 cls d (X.pn ++ pins) hz4 ⟨_, hd4⟩).run [] s5 _ H' _ S5 su) (fun f s6 hsp => ?_) (fun _ _ z => False.elim z)
            cases f with
            | next => exact let ⟨_, _, S6, q6⟩ := hsp; gone_ok (S6.unsuite ok) hN hi hln fun s7 J7 => ⟨_, _, J7, q6⟩
            | brk => exact let ⟨_, _, S6, q6⟩ := hsp; gone_ok (S6.unsuite ok) hN hi hln fun s7 J7 => ⟨_, _, J7, q6⟩
            | cont => exact let ⟨_, _, S6, q6⟩ := hsp; gone_ok (S6.unsuite ok) hN hi hln fun s7 J7 => ⟨_, _, J7, q6⟩
            | ret u => exact let ⟨_, _, _, S6, r6, q6⟩ := hsp; gone_ok (S6.unsuite ok) hN hi hln fun s7 J7 => ⟨_, _, _, J7, r6, q6⟩
    exact asked hh w
  refine wpAny_Try_except (wpAny_mono ((hb _ (X.pn ++ pins) caught land PassesOwn.looking).run [] s σ H D (I.toTry _) h) (fun f s1 hsp => ?_) fun e s1 he => he)
  cases f with
  | next => exact let ⟨_, _, J, q⟩ := hsp; wpAny_execs_nil ⟨_, _, J.ofTry ok, q⟩
  | brk => exact let ⟨_, _, J, q⟩ := hsp; ⟨_, _, J.ofTry ok, q⟩
  | cont => exact let ⟨_, _, J, q⟩ := hsp; ⟨_, _, J.ofTry ok, q⟩
  | ret u => exact let ⟨_, _, _, J, r, q⟩ := hsp; ⟨_, _, _, J.ofTry ok, r, q⟩
end
/-! ### what such clauses make of an exception -/
/-- a clause's answer: a text; a text and the number's repr; a text and the number -/
inductive Hk where
  | c (s : Str) | r (s : Str) | f (s : Str)
def toldH (x : Exc) (e : Str) : Hk → Option Iv.D
  | .c s => some (.str s)
  | .r s => if x.cls = e then (match x.arg with
    | some d => (match opRepr [d] with
      | some (.d r) => some (.tuple [.str s, r])
      | _ => none)
    | none => none) else none
  | .f s => if x.cls = e then x.arg.map fun d => .tuple [.str s, d] else none
def firstH (ex : Str → Str → Bool) (x : Exc) : List (Str × Hk) → Option Iv.D
  | [] => none
  | (e, k) :: hs => if ex x.cls e then toldH x e k else firstH ex x hs
def hMet2 (ex : Str → Str → Bool) (known : List Str) (hs : List (Str × Hk)) : Exc → Option Iv.D := fun x => if known.contains x.cls then firstH ex x hs else none
/-- the class that a clause names -/
structure ClNm (X : Cx) (sg : Scope) (e : Str) : Prop where
  g : sg.names.lookup e = some .globalImplicit
  d : (e == ("__debug__" : Str)) = false
  m : X.mg e = some (.ref (He.ga X.K e))
inductive HdlOk (X : Cx) (sg : Scope) (lack : Str) : List ExceptHandler → List (Str × Hk) → Prop
  | nil : HdlOk X sg lack [] []
  | c {e s : Str} {j : Nat} {p1 p2 p3 p4 : Pos} {hds : List ExceptHandler} {hs : List (Str × Hk)} (n : ClNm X sg e) (t : HdlOk X sg lack hds hs) :
      HdlOk X sg lack (.ExceptHandler (some (.Name e p1)) none [.Return (some (.Constant (.str s) j p2)) p3] p4 :: hds) ((e, .c s) :: hs)
  | r {e s : Str} {j : Nat} {kt} {p1 p2 p3 p4 p5 p6 p7 p8 pt : Pos} {hds : List ExceptHandler} {hs : List (Str × Hk)} (n : ClNm X sg e) (xf : XfC X.K (He.ga X.K e)) (no : PySem.W.findIn X.K (.ref (He.ga X.K e)) "number" = some none) (t : HdlOk X sg lack hds hs) :
      HdlOk X sg lack (.ExceptHandler (some (.Name e p1)) (some lack) [.Return (some (.Tuple [.Constant (.str s) j p2, .Call (.Name "repr" p5) [.Attribute (.Name lack p6) "number" p7] [] p8] kt pt)) p3] p4 :: hds) ((e, .r s) :: hs)
  | f {e s : Str} {j : Nat} {kt} {p1 p2 p3 p4 p6 p7 pt : Pos} {hds : List ExceptHandler} {hs : List (Str × Hk)} (n : ClNm X sg e) (xf : XfC X.K (He.ga X.K e)) (no : PySem.W.findIn X.K (.ref (He.ga X.K e)) "number" = some none) (t : HdlOk X sg lack hds hs) :
      HdlOk X sg lack (.ExceptHandler (some (.Name e p1)) (some lack) [.Return (some (.Tuple [.Constant (.str s) j p2, .Attribute (.Name lack p6) "number" p7] kt pt)) p3] p4 :: hds) ((e, .f s) :: hs)
/-- a clause's suite -/
def suH (P : Program) (w : World) (K : PySem.W.Frag) (i : Nat) (e : Str) : Hk → Addr → PySem.Value → Option Addr → TS
  | .c s => fun _ _ _ => tRet (tC (.str s))
  | .r s => fun a cls d => tRet (tTup (tCons (tC (.str s)) (tCons (tCB (rRepr P w K) (tCons (tXf a cls d (He.ga K e) "number" (tVar i)) tNil)) tNil)))
  | .f s => fun a cls d => tRet (tTup (tCons (tC (.str s)) (tCons (tXf a cls d (He.ga K e) "number" (tVar i)) tNil)))
def slH (i : Nat) : Hk → Option Nat
  | .c _ => none
  | _ => some i
def claH (P : Program) (w : World) (K : PySem.W.Frag) (i : Nat) (z : Str × Hk) : Cla := (.ref (He.ga K z.1), slH i z.2, suH P w K i z.1 z.2)
section
variable {H : Hp} {X : Cx}
theorem met2_gives {Ng : List Str} {x a q lack : Str} {sg : Scope} {g : Addr} {cdg : PySem.Value} {ex : Str → Str → Bool} {known : List Str} {hs : List (Str × Hk)} {h₀ : ExceptHandler} {hds : List ExceptHandler} {told : Str} {i j kt : Nat} {p0 p1 p2 pt p3 p8 : Pos} (hgd : X.A.guards = some []) (hu : X.A.units + 100 < cLine) (hN : Ng.Nodup) (hi : Ng[i]? = some lack) (hln : sg.names.lookup lack = some .local)
    (hdl : (lack == ("__debug__" : Str)) = false) (hdc : (lack == ("__classdict__" : Str)) = false) (hgr : sg.names.lookup ("repr" : Str) = some .globalImplicit) (hmr : X.mg "repr" = none)
    (hdk : HdlOk X sg lack (h₀ :: hds) hs) (hex : ∀ y ∈ known, ∀ e ∈ hs, PySem.W.exmOne X.K (.ref (He.ga X.K y)) (.ref (He.ga X.K e.1)) = some (ex y e.1))
    (h0 : ∀ f : Addr, (L2.start Ng [V.ref f])[0]? = some (some (V.ref f))) :
    GivesTo X Ng x sg g cdg [.Try [.Return (some (.Tuple [.Constant (.str told) j p0, .Call (.Name a p1) [] [] p2] kt pt)) p3] (h₀ :: hds) [] [] p8] a q (TTmet X.prog X.w X.K (hMet2 ex known hs)) := by
  intro f c' s H Q tl act hc h
  let Y := (cxOf C8.CX0 X.prog X.w X.K X.mg X.base Ng x sg g cdg X.A X.stack s H C8.E0).nox
  have hv : Vis sg lack := .inl hln
  have cok : ∀ {hds : List ExceptHandler} {hs : List (Str × Hk)}, HdlOk X sg lack hds hs → ClasOk Y hds (hs.map (claH X.prog X.w X.K i)) := by
    intro hds hs hk
    have rp : ∀ {A : Around}, A.guards = X.A.guards → A.units ≤ X.A.units + 3 → A.guards = some [] ∧ A.units + 64 < cLine := fun h1 h2 => ⟨h1.trans hgd, by omega⟩
    induction hk with
    | nil => exact .nil
    | c n t ih => exact .cons ⟨n.g, n.d, .inl n.m⟩ (.inl ⟨rfl, rfl⟩) (fun a oe cls d pn _ _ => pss_one (ps_ret pe_str)) ih
    | r n xf no t ih =>
      refine .cons ⟨n.g, n.d, .inl n.m⟩ (.inr ⟨_, i, rfl, rfl, hN, hi, hln⟩) (fun a oe cls d pn hz hf => ?_) ih
      refine pss_one (ps_ret (pe_tup (pa_cons pe_str (pa_cons (pe_callB (call_reprE ?_ ?_) hgr hmr PyProof.Rows.Boot.«repr» (pa_cons (pe_xf xf no hz hf (pe_var hi hv hdl hdc)) pa_nil)) pa_nil))))
      · exact hgd
      · show X.A.units + 3 + 64 < cLine
        omega
    | f n xf no t ih =>
      exact .cons ⟨n.g, n.d, .inl n.m⟩ (.inr ⟨_, i, rfl, rfl, hN, hi, hln⟩) (fun a oe cls d pn hz hf => pss_one (ps_ret (pe_tup (pa_cons pe_str (pa_cons (pe_xf xf no hz hf (pe_var hi hv hdl hdc)) pa_nil))))) ih
  refine ⟨_, pss_one (ps_try_mas (X := Y) (tb := fun W D σ H => ∃ Ech : XK, (∀ cls d (σ' : L2.St) H', Ech cls d H' → W cls d σ' H') ∧ σ[0]? = some (some (.ref f)) ∧ H c' = some (CodeO c' q) ∧ ∀ Q0, tl Ech H Q0) rfl rfl L2.takes0 (fun W pn xe tk _ => ?_) (cok hdk)), ?_⟩
  · refine ⟨fun pins s' σ H' D I h' => ?_⟩
    obtain ⟨Ech, hW, h1, h2, h3⟩ := h'
    have hp := act W pn xe Ech p1 p2 tk hW
    exact (pss_one (ps_ret (pos := p3) (pe_tup (pa_cons pe_str (pa_cons hp pa_nil))))).run pins s' σ H' D I ⟨h1, h2, h3 _⟩
  · refine ⟨fun cls d H' => ∃ x dr, XRep X.prog X.w X.K x cls d H' ∧ hMet2 ex known hs x = some dr ∧ ∀ v H'', Same H' H'' → PR X.prog X.w X.K H'' v dr → Q v H'', fun cls d σ' H' ⟨y, dr, xr, ey, k⟩ => ?_, h0 f, hc, h⟩
    unfold hMet2 at ey
    split at ey
    · rename_i hk
      have hk : y.cls ∈ known := by simpa using hk
      have hex' := hex y.cls hk
      have hiN : i < Ng.length := (List.getElem?_eq_some_iff.mp hi).1
      have many : ∀ {l : List (Str × Hk)}, (∀ e ∈ l, e ∈ hs) → firstH ex y l = some dr → wMA X.K Ng.length (fun _ _ _ _ => False) { nx := fun _ H' => Q .non H', rt := Q } (l.map (claH X.prog X.w X.K i)) cls d σ' H' := by
        intro l
        induction l with
        | nil => intro _ z; cases z
        | cons z l ih =>
          intro sub fz hlen
          obtain ⟨e, kk⟩ := z
          have fz : (if ex y.cls e then toldH y e kk else firstH ex y l) = some dr := fz
          obtain ⟨ec, xa⟩ := xr
          refine ⟨ex y.cls e, by rw [ec]; exact hex' _ (sub _ (List.mem_cons_self ..)), fun hb a na => ?_, fun hb => ih (fun e' he' => sub e' (List.mem_cons_of_mem _ he')) (by rw [if_neg (by rw [hb]; decide)] at fz; exact fz)⟩
          rw [if_pos hb] at fz
          have tupd : ∀ {xs : List V} {ds : List Iv.D}, xs.length = 2 → PRs X.prog X.w X.K H' xs ds → dr = .tuple ds → xs.length ≤ sizeLine ∧ ∀ p, H' p = none → Q (.ref p) (upd H' p (.tup xs)) := fun {xs ds} hl hp e => by
            refine ⟨by rw [hl, sizeLine_eq]; decide, fun p hpn => k _ _ (same_upd hpn) ?_⟩
            rw [e]
            exact .tup (.inl (.inl upd_same)) (hp.mono (Pers.same (same_upd hpn)))
          cases kk with
          | c s =>
            cases fz
            exact k _ _ (Same.refl _) (.str _)
          | r s =>
            have fz : (if y.cls = e then (match y.arg with | some d => (match opRepr [d] with | some (.d r) => some (PyData.tuple [.str s, r]) | _ => none) | none => none) else none) = some dr := fz
            split at fz
            · rename_i hcl
              split at fz
              · rename_i d0 ea
                split at fz
                · rename_i r er
                  cases fz
                  rw [ea] at xa
                  obtain ⟨dd, fs, v, ed, hdd, hlk, pv⟩ := xa
                  subst hcl
                  show tRet (tTup (tCons (tC (.str s)) (tCons (tCB (rRepr X.prog X.w X.K) (tCons (tXf a cls d (He.ga X.K y.cls) "number" (tVar i)) tNil)) tNil))) _ _ _
                  refine ⟨.ref a, List.getElem?_set_self (by rw [hlen]; exact hiN), rfl, ec, dd, fs, v, ed, hdd, hlk, ?_⟩
                  obtain ⟨x', d', e1, h1, h2, h3, h4, h5, h6⟩ := ops_repr (P := X.prog) (w := X.w) (K := X.K) H' [v] [d0] (.d r) (fun v H'' => H'' = H' → PR X.prog X.w X.K H' v r) (.cons (.of pv) .nil) er fun v H'' sm n e => by rw [← e]; exact n.1
                  exact ⟨x', d', e1, h1, h2, h3, h4, h5, tupd rfl (.cons (.str s) (.cons (h6 rfl) .nil)) rfl⟩
                · cases fz
              · cases fz
            · cases fz
          | f s =>
            have fz : (if y.cls = e then y.arg.map fun d => PyData.tuple [.str s, d] else none) = some dr := fz
            split at fz
            · rename_i hcl
              obtain ⟨d0, ea, e0⟩ := Option.map_eq_some_iff.mp fz
              rw [ea] at xa
              obtain ⟨dd, fs, v, ed, hdd, hlk, pv⟩ := xa
              subst hcl
              show tRet (tTup (tCons (tC (.str s)) (tCons (tXf a cls d (He.ga X.K y.cls) "number" (tVar i)) tNil))) _ _ _
              exact ⟨.ref a, List.getElem?_set_self (by rw [hlen]; exact hiN), rfl, ec, dd, fs, v, ed, hdd, hlk, tupd rfl (.cons (.str s) (.cons pv .nil)) e0.symm⟩
            · cases fz
      exact many (fun e he => he) ey
    · cases ey
end
end Iv
set_option Elab.async false
set_option linter.all false
set_option maxRecDepth 100000
set_option maxHeartbeats 1000000
/-! Iv: further rules: stores to items side by side, list(range), backward slices. -/
namespace Iv
open PySem L2
section
variable {P : Program} {w : World} {K : PySem.W.Frag} {Tb : List (Addr × Str)} {c : Ctx Tb} {Γ Γ' Γ1 Γ2 : Env} {σ σ' : L2.St} {H H' H1 H2 : Hp} {E : XK} {X : Cx} {D : Ends} {k : Nat}
/-! ### a[i], b[j] = x, y -/
/-- a target that changes a container -/
def tGx (P : Program) (w : World) (K : PySem.W.Frag) (Tb : List (Addr × Str)) (g : Bd) : TG := fun v σ H Q => ∃ (c : Ctx Tb) (Γ : Env) (d : Iv.D) (Γ' : Env), SRel P w K c Γ σ H ∧ PR P w K H v d ∧ g d Γ = some Γ' ∧ ∀ H', Stp P w K c Γ σ H Γ' H' → Q σ H'
def tGsx (P : Program) (w : World) (K : PySem.W.Frag) (Tb : List (Addr × Str)) (g : Bds) : TGs := fun vs σ H Q => ∃ (c : Ctx Tb) (Γ : Env) (ds : List Iv.D) (Γ' : Env), SRel P w K c Γ σ H ∧ PRs P w K H vs ds ∧ g ds Γ = some Γ' ∧ ∀ H', Stp P w K c Γ σ H Γ' H' → Q σ H'
def gvSub (i : Nat) (fi : M R) : Bd := fun d Γ => match slA Γ i with
  | none => none
  | some _ => match fz fi Γ with
    | some (.ok (ri, Γ1)) => (match cont Γ1 ri, Γ1[i]? with
      | some di, some (.c f x) => (match sAny x di d with
        | some x' => if x.isC && x'.isC then some (Γ1.set i (.c f x')) else none
        | none => none)
      | _, _ => none)
    | _ => none
theorem t_gsub {xn : Str} {p p2 : Pos} {i : Nat} {ie : Expr} {fi : M R} (hr : Room k X.A) (h : vB X.N X.env.scope i xn = true) (hi : PE X ie (tE X.prog X.w X.K Tb fi E0)) (hn : nsl ie = true) : PG X (.Subscript (.Name xn p) ie p2) (tGx X.prog X.w X.K Tb (gvSub i fi)) := by
  obtain ⟨a1, a2, a3, a4⟩ := vB_ok h
  refine PG.weak (pg_sub (pe_var a1 a2 a3 a4) (pe_fzE hi) (set_any (u64 hr)) (fun _ => asg_sub hn)) fun v σ H Q ⟨c, Γ, d, Γ', S, pr, e, q⟩ => ?_
  unfold gvSub at e
  split at e
  · cases e
  · rename_i x0 h0
    obtain ⟨f0, e0⟩ := slA_of h0
    obtain ⟨vo, ev, _⟩ := S.rep i f0 x0 e0
    refine ⟨vo, ev, c, Γ, S, ?_⟩
    split at e
    · rename_i ri Γ1 ei
      rw [ei]
      intro vi H2 T2 ri'
      obtain ⟨ri, rfl⟩ := fz_of ei
      have fi2 := FRep.of ri'
      split at e
      · rename_i di f x h1 h2
        split at e
        · rename_i x' ho
          split at e
          · rename_i hc
            cases e
            rw [Bool.and_eq_true] at hc
            obtain ⟨vo', ev', r⟩ := T2.rel.rep i f x h2
            rw [ev] at ev'
            cases ev'
            obtain ⟨a, u, rfl, hu⟩ := r.at_ hc.1
            refine set_anyS H2 a x x' vi v di d _ r hc.1 (fi2.cont T2.rel h1) (PR.mono T2.pers pr) ho fun u ra => ?_
            exact q _ (T2.trans (T2.rel.put h2 hc.1 hc.2 ev ra))
          · cases e
        · cases e
      · cases e
    · cases e
theorem pgs_nilX : PGs X [] (tGsx P w K Tb gvNil) := by
  refine PGs.weak pgs_nil fun v σ H Q ⟨c, Γ, ds, Γ', S, r, e, q⟩ => ?_
  cases r with
  | nil => cases e; exact ⟨rfl, q H (Stp.refl S)⟩
  | cons => cases e
theorem pgs_consX {e : Expr} {es : List Expr} {g : Bd} {h : Bds} (h1 : PG X e (tGx P w K Tb g)) (h2 : PGs X es (tGsx P w K Tb h)) (hs : (assignEach (e :: es) X.env).map (fun x => x.2) = assign e X.env :: (assignEach es X.env).map (fun x => x.2)) : PGs X (e :: es) (tGsx P w K Tb (gvCons g h)) := by
  refine PGs.weak (pgs_cons h1 h2 hs) fun v σ H Q ⟨c, Γ, ds, Γ', S, r, e, q⟩ => ?_
  cases r with
  | nil => cases e
  | cons h t =>
    obtain ⟨Γ1, e1, e2⟩ := Option.bind_eq_some_iff.mp e
    exact ⟨_, _, rfl, c, Γ, _, Γ1, S, h, e1, fun H1 T1 => ⟨c, Γ1, _, Γ', T1.rel, t.mono T1.pers, e2, fun H2 T2 => q H2 (T1.trans T2)⟩⟩
theorem t_gtX {es : List Expr} {k : Nat} {pos : Pos} {n : Nat} {h : Bds} (hc : X.calm = true) (hg : PGs X es (tGsx P w X.K Tb h)) (hn : (assignEach es X.env).length = n) (hst : (assignEach es X.env).findIdx? (·.1) = none) : PG X (.Tuple es k pos) (tGx P w X.K Tb (gvTup n h)) := by
  refine PG.weak (pg_tup hc hg hn hst) fun v σ H Q ⟨c, Γ, d, Γ', S, r, e, q⟩ => ?_
  unfold gvTup at e
  split at e
  · split at e
    · rename_i ds hl
      obtain ⟨a, vs, rfl, hs, r1⟩ := r.inv_tup
      exact ⟨a, vs, rfl, hs, by rw [r1.length]; exact hl, c, Γ, ds, Γ', S, r1, e, q⟩
    · cases e
  · cases e
theorem ps_bindX {tg e : Expr} {pos : Pos} {f : M R} {g : Bd} (he : PE X e (tE P w K Tb f E)) (hg : PG X tg (tGx P w K Tb g)) (hs : swapsWithSole [tg] e pos.line X.env = pure false) (hw : swappedStores [tg] e X.env = pure none) (h1 : (assignEach [tg] X.env).map (·.2) = [assign tg X.env]) :
    PS X (.Assign [tg] e pos) (tS P w K Tb (evBind f g) E) := by
  refine PS.weak (ps_asg (pe_fzE he) hg hs hw h1) fun D σ H ⟨c, Γ, S, q⟩ => ⟨c, Γ, S, (Aft_bnd.mp q).imp fun r Γ1 er q v H1 T rr => ?_⟩
  obtain ⟨r, rfl⟩ := fz_of er
  split at q
  · rename_i d hd
    split at q
    · rename_i Γ2 eg
      have pr := datas_rep (.cons (FRep.of rr) .nil) hd
      obtain ⟨y, ey, py⟩ := pr.one
      cases ey
      exact ⟨c, Γ1, d, Γ2, T.rel, py, eg, fun H' T2 => (show SPost P w K c H D .nx Γ2 from q) σ H' T2.rel (T.trans T2).pers⟩
    · exact q.elim
  · exact q.elim
/-! ### list(range(..)) -/
def okLR (i j : Int) : Bool := decide (-(2 ^ 62) ≤ i) && (decide (i < 2 ^ 62) && (decide (-(2 ^ 62) ≤ j) && (decide (j < 2 ^ 62) && decide ((j - i).toNat ≤ 2 ^ 24))))
def opLR : List Iv.D → Option A
  | [.int i, .int j] => if okLR i j then some (.l (rngD i j)) else none
  | _ => none
def opLR1 : List Iv.D → Option A
  | [.int j] => if okLR 0 j then some (.l (rngD 0 j)) else none
  | _ => none
theorem okLR_of {i j : Int} (h : okLR i j = true) : L2.RgOk i j := by
  unfold okLR at h
  simp only [Bool.and_eq_true, decide_eq_true_eq] at h
  exact ⟨h.1, h.2.1, h.2.2.1, h.2.2.2.1, h.2.2.2.2⟩
theorem prs_rng {i j : Int} : PRs P w K H (L2.rgV i j) (rngD i j) := by
  unfold L2.rgV rngD
  generalize List.range (j - i).toNat = l
  induction l with
  | nil => exact .nil
  | cons a l ih => exact .cons (.int _) ih
def rLR : R2 := fun x y H Q => ∃ i j, x = .int i ∧ y = .int j ∧ L2.RgOk i j ∧ ∀ q, H q = none → Q (.ref q) (upd H q (.lst (L2.rgV i j)))
def rLR1 : V → Hp → VK → Prop := fun x H Q => ∃ j, x = .int j ∧ L2.RgOk 0 j ∧ ∀ q, H q = none → Q (.ref q) (upd H q (.lst (L2.rgV 0 j)))
theorem new_lst {q : Addr} {xs : List V} {ds : List Iv.D} (h : H q = none) (r : PRs P w K H xs ds) : ANew P w K H (upd H q (.lst xs)) (.ref q) (.l ds) :=
  ⟨⟨q, xs, rfl, upd_same, r.mono (Pers.same (same_upd h))⟩, fun _ => ⟨q, rfl, h⟩⟩
theorem ops_LR : OpS P w K (fun vs H Q => ∃ x y, vs = [x, y] ∧ rLR x y H Q) opLR := by
  intro H vs ds z Q r e k
  unfold opLR at e
  split at e
  · obtain ⟨x, y, rfl, hx, hy⟩ := r.two
    split at e
    · rename_i h
      cases e
      obtain rfl := hx.int
      obtain rfl := hy.int
      exact ⟨_, _, rfl, _, _, rfl, rfl, okLR_of h, fun q hq => k _ _ (same_upd hq) (new_lst hq prs_rng)⟩
    · cases e
  · cases e
theorem ops_LR1 : OpS P w K (fun vs H Q => ∃ x, vs = [x] ∧ rLR1 x H Q) opLR1 := by
  intro H vs ds z Q r e k
  unfold opLR1 at e
  split at e
  · obtain ⟨x, rfl, hx⟩ := r.one
    split at e
    · rename_i h
      cases e
      obtain rfl := hx.int
      exact ⟨_, rfl, _, rfl, okLR_of h, fun q hq => k _ _ (same_upd hq) (new_lst hq prs_rng)⟩
    · cases e
  · cases e
theorem t_listR2 {a b : Expr} {fa fb : M R} {p p2 pos pos2 : Pos} {fr : List Str} (hf : Frs X.mg fr) (h1 : ("range" : Str) ∈ fr) (h2 : ("list" : Str) ∈ fr) (hc : X.calm = true) (hr : gB X.env "range" = true) (hl : gB X.env "list" = true) (ha : PE X a (tE P w K Tb fa E)) (hb : PE X b (tE P w K Tb fb E)) (na : nst a = true) (nb : nst b = true) :
    PE X (.Call (.Name "list" p) [.Call (.Name "range" p2) [a, b] [] pos2] [] pos) (tE P w K Tb (evOp opLR (evCons fa (evCons fb evNil))) E) :=
  PE.weak (pe_listRg hc (gB_ok hl).1 (hf _ h2) (prg_2 (gB_ok hr).1 (hf _ h1) (pe_fzE ha) (pe_fzE hb) (star_cons na) (star_cons nb) (star_any (by simp [nb])))) fun σ H Q q => by
    refine (tBin ops_LR q : tOp rLR _ _ σ H Q)
theorem t_listR1 {a : Expr} {fa : M R} {p p2 pos pos2 : Pos} {fr : List Str} (hf : Frs X.mg fr) (h1 : ("range" : Str) ∈ fr) (h2 : ("list" : Str) ∈ fr) (hc : X.calm = true) (hr : gB X.env "range" = true) (hl : gB X.env "list" = true) (ha : PE X a (tE P w K Tb fa E)) (na : nst a = true) :
    PE X (.Call (.Name "list" p) [.Call (.Name "range" p2) [a] [] pos2] [] pos) (tE P w K Tb (evOp opLR1 (evCons fa evNil)) E) :=
  PE.weak (pe_listRg hc (gB_ok hl).1 (hf _ h2) (prg_1 (gB_ok hr).1 (hf _ h1) (pe_fzE ha) (star_cons na))) fun σ H Q q => (tOne ops_LR1 q)
/-! ### C.__init__(self, ..), C an own class whose __init__ is a built-in base's -/
theorem pe_oinit {pl : Sem Bool} {o : Str} {Ca : Addr} {e : Expr} {es : List Expr} {ta : TA} {p1 p2 pos : Pos} {bmB : List PySem.Value} {B newId initId : String} (F : PySem.ExcBaseFacts B newId initId bmB) (hg : Gl X o) (hd : (o == ("__debug__" : Str)) = false) (hm : X.mg o = some (.ref Ca))
    (vG : PySem.W.specialIn X.K (.ref Ca) "__getattribute__" = some (some (.builtin "type.__getattribute__"))) (tC : PySem.W.typeIn X.K (.ref Ca) = some (.type "type")) (rC : PySem.W.readsIn X.K Ca (.type "type") = true) (vV : PySem.W.findCls X.K (.ref Ca) (.type "type") "__init__" = some (.val (.builtin initId))) (hh : PySem.W.handedIn (.builtin initId) = true) (ha : PA X (e :: es) ta)
    (hc : eval (.Call (.Attribute (.Name o p1) "__init__" p2) (e :: es) [] pos) X.env = (do
      let ov ← eval (.Name o p1) X.env
      standAt p2.atName
      let (f, first) ← holding [ov] (getMethod ov "__init__" pl)
      callWith pos f first (backTo pos (starEach (e :: es) X.env)) (backToKw pos (keywordEach [] X.env))))
    (he : starEach (e :: es) X.env = (false, eval e X.env) :: starEach es X.env) (hpl : (backTo pos (starEach es X.env)).any (·.1) = false) :
    PE X (.Call (.Attribute (.Name o p1) "__init__" p2) (e :: es) [] pos) (tBi X.K bmB newId ta) := by
  refine ⟨fun pins s σ H Q I h => ?_⟩
  refine PySem.W.methodCall_KW (ld_glob I hg hm ?_ hd) hc
  obtain ⟨m, fr⟩ := I.fr
  refine PySem.W.method_of_cls fr I.ok.mod.kin vG (PySem.W.cls_val fr I.ok.mod.kin tC rC vV hh ?_)
  show wpAny _ _ (callWith pos (Value.builtin initId) [] (backTo pos (starEach (e :: es) X.env)) []) _ _ _
  refine PyProof.Rows.callWith_method1 (thn (ha.run pos pins _ σ H _ (I.tok _) h) fun us s1 ⟨vs, H1, I1, r1, a, C, ws, ev, hl, T, ea, q⟩ => ?_) he hpl
  subst ev
  cases r1 with
  | @cons _ u0 _ ur ra rw' =>
    obtain rfl : u0 = Value.ref a := ra
    exact binit_ok F T I1 ea (by rw [← Paired.length rw', sizeLine_eq]; omega) fun s' J => ⟨.non, H1, J, rfl, q⟩
theorem pass_VE (self : PySem.Value) : PySem.refuseLoop self "__setattr__" He.veBase = pure () := by kernel_rfl
/-- what such an __init__ does keeps its promise -/
theorem lack_semG {K : PySem.W.Frag} {bmB : List PySem.Value} {newId : String} {vs : List V} {H : Hp} {Q : VK} {E : XK} {m : Str} (h : spLack K bmB newId vs H Q E) :
    tSeq (tDrop (tBi K bmB newId (tCons (tVar 0) (tCons (tC (.str m)) tNil)))) (tFst K bmB newId "number" (tVar 0) (tVar 1)) { nx := fun _ H' => Q .non H', rt := Q } (L2.start ["self", "number"] vs) H := by
  obtain ⟨a, C, y, rfl, T, hno, ea, k⟩ := h
  exact ⟨_, rfl, a, C, _, rfl, by simp, T, ea, _, rfl, _, rfl, a, C, rfl, T, hno, ea, k⟩
/-- an own class's __init__ is the built-in n -/
def vVO (C : Addr) (n : String) (K : PySem.W.Frag) : Bool := match PySem.W.findCls K (.ref C) (.type "type") "__init__" with
  | some (.val (.builtin m)) => decide (m = n)
  | _ => false
theorem vVO_ok {C : Addr} {n : String} {K : PySem.W.Frag} (h : vVO C n K = true) : PySem.W.findCls K (.ref C) (.type "type") "__init__" = some (.val (.builtin n)) := by
  unfold vVO at h
  split at h
  · rename_i m e
    rw [e, of_decide_eq_true h]
  · cases h
end
end Iv
set_option Elab.async false
set_option linter.all false
set_option maxRecDepth 100000
set_option maxHeartbeats 4000000
namespace K99
open PySem L2 Iv
def top (i : Nat) : Stmt := PySem.Challenge.pw_roomwide_k99_refusals_of_slides.main.body.getD i (.Pass ⟨0, 0, 0, 0⟩)
def free : List Str := ["abs", "all", "bool", "enumerate", "int", "isinstance", "len", "list", "max", "min", "range", "repr", "sorted", "str", "tuple", "zip"]
abbrev s_is_number_from : Stmt := top 11
abbrev s_is_door_told : Stmt := top 12
abbrev s_is_web_told : Stmt := top 13
abbrev s_neighbours_in : Stmt := top 14
abbrev s_ask_web : Stmt := top 15
abbrev s_rooms_met_without : Stmt := top 21
abbrev s_is_whole_web : Stmt := top 22
abbrev s_empty_room : Stmt := top 23
abbrev s_slid_into : Stmt := top 24
abbrev s_stands_from : Stmt := top 25
abbrev s_rooms_to : Stmt := top 26
abbrev s_first_stand : Stmt := top 27
abbrev s_hues_of : Stmt := top 28
abbrev s_sign_of : Stmt := top 29
abbrev s_is_ring_web : Stmt := top 30
abbrev s_rooms_round : Stmt := top 31
abbrev s_round_of_things : Stmt := top 32
abbrev s_paper_of_slides : Stmt := top 33
abbrev s_is_stand_told : Stmt := top 34
abbrev s_is_slide_now : Stmt := top 35
abbrev s_is_led_by : Stmt := top 36
abbrev s_are_things : Stmt := top 37
abbrev s_shows_unlike : Stmt := top 38
abbrev s_ask_whole : Stmt := top 39
abbrev s_ask_stand : Stmt := top 40
abbrev s_ask_both_stands : Stmt := top 41
abbrev s_slide : Stmt := top 42
abbrev s_slid : Stmt := top 43
abbrev s_slides_paper : Stmt := top 44
abbrev s_shows_slides : Stmt := top 45
abbrev s_least_slides : Stmt := top 46
abbrev s_count_stands : Stmt := top 47
abbrev s_sign : Stmt := top 48
abbrev s_round_things : Stmt := top 49
abbrev s__law_bag : Stmt := top 51
abbrev s__law_pull : Stmt := top 52
abbrev s__law_choose : Stmt := top 53
abbrev s__law_met : Stmt := top 54
abbrev s__law_right : Stmt := top 55
abbrev s_law : Stmt := top 56
abbrev s_init_NoWalk : Stmt := inCls (top 5) 0
abbrev s_init_LackError : Stmt := inCls (top 6) 0
def known : List Str := ["NoHouse", "NoRoom", "NoSituation", "NoWalk", "TooWide"]
def caught : List Str := ["NoHouse", "NoRoom", "NoNumber", "NoWalk", "NoSituation", "TooWide"]
def mros : List (Str × List Str) := [("NoHouse", ["NoHouse", "RoomError"]), ("NoRoom", ["NoRoom", "LackError"]), ("NoSituation", ["NoSituation", "RoomError"]), ("NoWalk", ["NoWalk", "RoomError"]), ("TooWide", ["TooWide", "RoomError"])]
def exT (y e : Str) : Bool := match mros.lookup y with
  | some l => l.contains e
  | none => false
structure HD (K : PySem.W.Frag) (mg : Str → Option Value) : Prop where
  hf : Frs mg free
  def_is_number_from : DefH K mg "is_number_from" s_is_number_from
  def_is_door_told : DefH K mg "is_door_told" s_is_door_told
  def_is_web_told : DefH K mg "is_web_told" s_is_web_told
  def_neighbours_in : DefH K mg "neighbours_in" s_neighbours_in
  def_ask_web : DefH K mg "ask_web" s_ask_web
  def_rooms_met_without : DefH K mg "rooms_met_without" s_rooms_met_without
  def_is_whole_web : DefH K mg "is_whole_web" s_is_whole_web
  def_empty_room : DefH K mg "empty_room" s_empty_room
  def_slid_into : DefH K mg "slid_into" s_slid_into
  def_stands_from : DefH K mg "stands_from" s_stands_from
  def_rooms_to : DefH K mg "rooms_to" s_rooms_to
  def_first_stand : DefH K mg "first_stand" s_first_stand
  def_hues_of : DefH K mg "hues_of" s_hues_of
  def_sign_of : DefH K mg "sign_of" s_sign_of
  def_is_ring_web : DefH K mg "is_ring_web" s_is_ring_web
  def_rooms_round : DefH K mg "rooms_round" s_rooms_round
  def_round_of_things : DefH K mg "round_of_things" s_round_of_things
  def_paper_of_slides : DefH K mg "paper_of_slides" s_paper_of_slides
  def_is_stand_told : DefH K mg "is_stand_told" s_is_stand_told
  def_is_slide_now : DefH K mg "is_slide_now" s_is_slide_now
  def_is_led_by : DefH K mg "is_led_by" s_is_led_by
  def_are_things : DefH K mg "are_things" s_are_things
  def_shows_unlike : DefH K mg "shows_unlike" s_shows_unlike
  def_ask_whole : DefH K mg "ask_whole" s_ask_whole
  def_ask_stand : DefH K mg "ask_stand" s_ask_stand
  def_ask_both_stands : DefH K mg "ask_both_stands" s_ask_both_stands
  def_slide : DefH K mg "slide" s_slide
  def_slid : DefH K mg "slid" s_slid
  def_slides_paper : DefH K mg "slides_paper" s_slides_paper
  def_shows_slides : DefH K mg "shows_slides" s_shows_slides
  def_least_slides : DefH K mg "least_slides" s_least_slides
  def_count_stands : DefH K mg "count_stands" s_count_stands
  def_sign : DefH K mg "sign" s_sign
  def_round_things : DefH K mg "round_things" s_round_things
  def__law_bag : DefH K mg "_law_bag" s__law_bag
  def__law_pull : DefH K mg "_law_pull" s__law_pull
  def__law_choose : DefH K mg "_law_choose" s__law_choose
  def__law_met : DefH K mg "_law_met" s__law_met
  def__law_right : DefH K mg "_law_right" s__law_right
  def_law : DefH K mg "law" s_law
  k_MOST_ROOMS : Kon mg "MOST_ROOMS" (.int 9)
  k_MOST_SLID : Kon mg "MOST_SLID" (.int 6)
  k_SLIDES : Kon mg "SLIDES" (.str "slides")
  k_ROUNDS : Kon mg "ROUNDS" (.str "rounds")
  k_SIGNS : Kon mg "SIGNS" (.str "signs")
  x_NoHouse : PlX K mg "NoHouse" He.veBase "ValueError.__new__"
  x_NoSituation : PlX K mg "NoSituation" He.veBase "ValueError.__new__"
  x_RoomError : PlX K mg "RoomError" He.veBase "ValueError.__new__"
  x_TooWide : PlX K mg "TooWide" He.veBase "ValueError.__new__"
  y_LackError : LkX K mg "LackError" leBase "LookupError.__new__" (He.fAd K ("LackError", some "__init__"))
  y_NoNumber : LkX K mg "NoNumber" leBase "LookupError.__new__" (He.fAd K ("LackError", some "__init__"))
  y_NoRoom : LkX K mg "NoRoom" leBase "LookupError.__new__" (He.fAd K ("LackError", some "__init__"))
  y_NoWalk : LkX K mg "NoWalk" He.veBase "ValueError.__new__" (He.fAd K ("NoWalk", some "__init__"))
  init_NoWalk : DefM K "__init__" "NoWalk.__init__" s_init_NoWalk (He.fAd K ("NoWalk", some "__init__"))
  init_LackError : DefM K "__init__" "LackError.__init__" s_init_LackError (He.fAd K ("LackError", some "__init__"))
  oG_NoWalk : PySem.W.specialIn K (.ref (He.ga K "RoomError")) "__getattribute__" = some (some (.builtin "type.__getattribute__"))
  oR_NoWalk : PySem.W.readsIn K (He.ga K "RoomError") (.type "type") = true
  oV_NoWalk : PySem.W.findCls K (.ref (He.ga K "RoomError")) (.type "type") "__init__" = some (.val (.builtin "ValueError.__init__"))
  le : mg "LookupError" = none
  vV : PySem.W.findCls K (.type "LookupError") (.type "type") "__init__" = some (.val (.builtin "LookupError.__init__"))
  exm : exmB K known caught exT = true
  xf_NoRoom : XfC K (He.ga K "NoRoom")
  xf_NoNumber : XfC K (He.ga K "NoNumber")
  xf_NoWalk : XfC K (He.ga K "NoWalk")
theorem sc_init_NoWalk : FnScope ["self", "number"] ["self", "number"] (defScope s_init_NoWalk) := ⟨rfl, rfl, rfl, by decide +kernel, rfl, by decide +kernel, by decide +kernel⟩
theorem ok_init_NoWalk {P : Program} {w : World} {K : PySem.W.Frag} {mg : Str → Option Value} {base : Heap} (T : HD K mg) : InX P w K mg base He.veBase "ValueError.__new__" (He.fAd K ("NoWalk", some "__init__")) := by
  obtain ⟨fd, F⟩ := T.init_NoWalk.ex
  refine ⟨⟨fd, ["self", "number"], F.ok sc_init_NoWalk (fun vs H Q E ⟨a, C, y, e, _⟩ => by rw [e]; rfl) fun cdv A outer s H vs Q E hr h => ⟨_, ?_, lack_semG (m := "no walk") h⟩, F.bindsN fun _ _ _ _ _ _ us hl => match us, hl with | [_, _], _ => rfl⟩, T.init_NoWalk.tI⟩
  exact pss_cons (ps_expr (pe_oinit PySem.F.excBase_ValueError (gB_ok (by kernel_rfl)).1 (by kernel_rfl) T.x_RoomError.g T.oG_NoWalk T.x_RoomError.t T.oR_NoWalk T.oV_NoWalk (by kernel_rfl) (pa_cons (pe_var rfl (.inl rfl) rfl rfl) (pa_cons pe_str pa_nil)) rfl rfl rfl) rfl)
    (pss_one (ps_field pass_VE rfl (pe_var rfl (.inl rfl) rfl rfl) (pe_var rfl (.inl rfl) rfl rfl) rfl))
theorem sc_init_LackError : FnScope ["self", "number"] ["self", "number"] (defScope s_init_LackError) := ⟨rfl, rfl, rfl, by decide +kernel, rfl, by decide +kernel, by decide +kernel⟩
theorem ok_init_LackError {P : Program} {w : World} {K : PySem.W.Frag} {mg : Str → Option Value} {base : Heap} (T : HD K mg) : InX P w K mg base leBase "LookupError.__new__" (He.fAd K ("LackError", some "__init__")) := by
  obtain ⟨fd, F⟩ := T.init_LackError.ex
  refine ⟨⟨fd, ["self", "number"], F.ok sc_init_LackError (fun vs H Q E ⟨a, C, y, e, _⟩ => by rw [e]; rfl) fun cdv A outer s H vs Q E hr h => ⟨_, ?_, lack_semG (m := "lacks") h⟩, F.bindsN fun _ _ _ _ _ _ us hl => match us, hl with | [_, _], _ => rfl⟩, T.init_LackError.tI⟩
  exact pss_cons (ps_expr (pe_leinit (gB_ok (by kernel_rfl)).1 T.le T.vV (pa_cons (pe_var rfl (.inl rfl) rfl rfl) (pa_cons pe_str pa_nil)) rfl rfl rfl) rfl)
    (pss_one (ps_field pass_LE rfl (pe_var rfl (.inl rfl) rfl rfl) (pe_var rfl (.inl rfl) rfl rfl) rfl))
def n__law_met : List Str := ["call", "met"]
theorem sc__law_met : FnScope n__law_met ["call"] (defScope s__law_met) := ⟨rfl, rfl, rfl, by decide +kernel, rfl, by decide +kernel, by decide +kernel⟩
def hs_met : List (Str × Hk) := [("NoHouse", .c "house"), ("NoRoom", .r "room"), ("NoNumber", .r "number"), ("NoWalk", .f "walk"), ("NoSituation", .c "stand"), ("TooWide", .c "wide")]
def h__law_met : Exc → Option Iv.D := hMet2 exT known hs_met
theorem caught_met : ∀ e ∈ hs_met, e.1 ∈ caught := by decide
theorem lam__law_met {X : Cx} {E : XK} {cc PP : Addr} {q : Str} {params : Arguments} {body : Expr} {scope : Scope} {f : M R} {p lpos pos : Pos} {k : Nat} (T : HD X.K X.mg) (TB : LamX.TabB X.base X.mg cc PP) (hq : X.env.qual ++ "<lambda>" = q) (hcode : X.env.code = .ref cc) (hgd : X.A.guards = some []) (hr : Room (k + 2) X.A)
    (hg : gB X.env "_law_met" = true) (L : LamX.lamSB X.env.scope scope = true) (hdef : defaultsOf params X.env = ([], [])) (hbind : ∀ (q : Str) (cl : List (Str × Addr)) (pm cv ctv : Value), bindArgs (PySem.W.kla_fn "<lambda>" q params body scope cl pm cv ctv) ⟨[], []⟩ = pure [])
    (hbody : ∀ (A : Around) (outer : List PySem.Env) (s : Shared) (H : Hp) (E : XK) (f' c' : Addr), Room k (A.deeper (LamX.lamEnv X scope s.heap.objs.size f' c')) → PE (LamX.lamCx X A outer s H E scope f' c') body (tE X.prog X.w X.K [(PP, q)] f E)) :
    PE X (.Call (.Name "_law_met" p) [.Lambda params body scope lpos] [] pos) (tE X.prog X.w X.K [(PP, q)] (evLam h__law_met f) E) := by
  obtain ⟨fd, F⟩ := T.def__law_met.ex
  exact t_lam F T.def__law_met.g (F.bindsN fun _ _ _ _ _ _ us hl => match us, hl with | [_], _ => rfl) sc__law_met (by kernel_rfl) (fun cdv => met2_gives (ex := exT) (known := known) (hs := [("NoHouse", .c "house"), ("NoRoom", .r "room"), ("NoNumber", .r "number"), ("NoWalk", .f "walk"), ("NoSituation", .c "stand"), ("TooWide", .c "wide")]) (i := 1) hgd (units_of hr) sc__law_met.nd rfl (by kernel_rfl) rfl rfl (by kernel_rfl) (T.hf _ (by simp [free])) (.c ⟨by kernel_rfl, by kernel_rfl, T.x_NoHouse.g⟩ (.r ⟨by kernel_rfl, by kernel_rfl, T.y_NoRoom.g⟩ T.xf_NoRoom T.y_NoRoom.no (.r ⟨by kernel_rfl, by kernel_rfl, T.y_NoNumber.g⟩ T.xf_NoNumber T.y_NoNumber.no (.f ⟨by kernel_rfl, by kernel_rfl, T.y_NoWalk.g⟩ T.xf_NoWalk T.y_NoWalk.no (.c ⟨by kernel_rfl, by kernel_rfl, T.x_NoSituation.g⟩ (.c ⟨by kernel_rfl, by kernel_rfl, T.x_TooWide.g⟩ .nil)))))) (fun y hy e he => exmB_ok T.exm hy (caught_met e he)) (fun _ => rfl)) TB hq hcode hr hg L hdef hbind hbody
def n_is_number_from : List Str := ["value", "low", "high"]
theorem sc_is_number_from : FnScope n_is_number_from ["value", "low", "high"] (defScope s_is_number_from) := ⟨rfl, rfl, rfl, by decide +kernel, rfl, by decide +kernel, by decide +kernel⟩
def b_is_number_from : M Fw := (evSeq (evRet (evAnd (evOp (opIsi .int) (evCons (evVar 0) evNil)) (evAnd (evNot (evOp (opIsi .bool) (evCons (evVar 0) evNil))) (evChain opLe opLe (evVar 1) (evVar 0) (evVar 2))))) evNext)
def F_is_number_from : Fn := evFn 3 3 b_is_number_from
theorem ok_is_number_from {P : Program} {w : World} {K : PySem.W.Frag} {mg : Str → Option Value} {base : Heap} (T : HD K mg) : Cal P w K mg base 1 3 "is_number_from" F_is_number_from := by
  obtain ⟨fd, F⟩ := T.def_is_number_from.ex
  refine cal_of (k := 0) (N := n_is_number_from) (ps := ["value", "low", "high"]) (b := b_is_number_from) F T.def_is_number_from.g sc_is_number_from (F.bindsN fun _ _ _ _ _ _ us hl => match us, hl with | [_, _, _], _ => rfl) fun cdv A outer s H E hr => ?_
  have lv : Lv (cxOf (L2.CX P w) P w K mg base n_is_number_from "is_number_from" (defScope s_is_number_from) (He.ga K "is_number_from") cdv A outer s H E) E := passes_call (takes_of rfl rfl rfl rfl) fun _ _ _ _ h => h
  have hf := T.hf
  exact (pss_consE (ps_retE (pe_andE (t_isi hf (by simp [free]) (by simp [free]) PyProof.Rows.Boot.«int» (by decide) (by kernel_rfl) (by kernel_rfl) (t_v (by kernel_rfl)) rfl) (pe_andE (pe_notE (t_isi hf (by simp [free]) (by simp [free]) PyProof.Rows.Boot.«bool» (by decide) (by kernel_rfl) (by kernel_rfl) (t_v (by kernel_rfl)) rfl)) (pe_one (pe_chainE (op_leX (u64 hr)) (op_leX (u64 hr)) (t_v (by kernel_rfl)) (t_v (by kernel_rfl)) (t_v (by kernel_rfl)) ops_le ops_le (by kernel_rfl)))))) pss_nilE)
def n_is_door_told : List Str := ["many", "value", "one"]
theorem sc_is_door_told : FnScope n_is_door_told ["many", "value"] (defScope s_is_door_told) := ⟨rfl, rfl, rfl, by decide +kernel, rfl, by decide +kernel, by decide +kernel⟩
def b_is_door_told : M Fw := (evSeq (evIf (evOrT (evNotT (evB (evOp (opIsi .tuple) (evCons (evVar 1) evNil)))) (evB (evOp opNe (evCons (evOp opLenA (evCons (evVar 1) evNil)) (evCons (evCon (.int 2)) evNil))))) (evSeq (evRet (evCon (.bool false))) evNext) evNext) (evSeq (evRet (evAnd (evOp opAll (evCons (evLc (itAny (evFzv 1)) (gvName 2) evTrue (evCall F_is_number_from (evCons (evVar 2) (evCons (evCon (.int 0)) (evCons (evOp opSub (evCons (evVar 0) (evCons (evCon (.int 1)) evNil))) evNil)))) [2]) evNil)) (evOp opLt (evCons (evOp opIxA (evCons (evVar 1) (evCons (evCon (.int 0)) evNil))) (evCons (evOp opIxA (evCons (evVar 1) (evCons (evCon (.int 1)) evNil))) evNil))))) evNext))
def F_is_door_told : Fn := evFn 2 3 b_is_door_told
theorem ok_is_door_told {P : Program} {w : World} {K : PySem.W.Frag} {mg : Str → Option Value} {base : Heap} (T : HD K mg) : Cal P w K mg base 2 2 "is_door_told" F_is_door_told := by
  obtain ⟨fd, F⟩ := T.def_is_door_told.ex
  refine cal_of (k := 1) (N := n_is_door_told) (ps := ["many", "value"]) (b := b_is_door_told) F T.def_is_door_told.g sc_is_door_told (F.bindsN fun _ _ _ _ _ _ us hl => match us, hl with | [_, _], _ => rfl) fun cdv A outer s H E hr => ?_
  have lv : Lv (cxOf (L2.CX P w) P w K mg base n_is_door_told "is_door_told" (defScope s_is_door_told) (He.ga K "is_door_told") cdv A outer s H E) E := passes_call (takes_of rfl rfl rfl rfl) fun _ _ _ _ h => h
  have hf := T.hf
  have c_is_number_from := ok_is_number_from (P := P) (w := w) (base := base) T
  exact (pss_consE (ps_ifE (PW.pt (pw_orE (pt_notE (pt_valE (t_isi hf (by simp [free]) (by simp [free]) PyProof.Rows.Boot.«tuple» (by decide) (by kernel_rfl) (by kernel_rfl) (t_v (by kernel_rfl)) rfl) (fun _ => rfl))) (pw_or1 (t_cmpT (op_neD (u64 hr)) ops_ne (t_blt hf call_lenA ops_lenA (by simp [free]) PyProof.Rows.Boot.«len» (by decide) (by kernel_rfl) (t_cons (t_v (by kernel_rfl)) pa_nl rfl) rfl) (t_k rfl) (by kernel_rfl))))) (pss_consE (ps_retE (t_k rfl)) pss_nilE) pss_nilE) (pss_consE (ps_retE (pe_andE (t_blt hf (cr_all rfl) ops_all (by simp [free]) PyProof.Rows.Boot.«all» (by decide) (by kernel_rfl) (t_cons (pe_lcE (own := [("one", 2)]) rfl sc_is_door_told.nd (pi_any (t_fv (by kernel_rfl))) (blkOk_by (by kernel_rfl)) (fun s H C cl fp => (t_gn sc_is_door_told.nd (by kernel_rfl))) (fun s H C cl fp => pts_nilE) (fun s H C cl fp => (t_call (c_is_number_from.mono (by decide)) hr (by kernel_rfl) lv_no (t_cons (t_v (by kernel_rfl)) (t_cons (t_k rfl) (t_cons (t_op2 op_sub ops_sub (t_v (by kernel_rfl)) (t_k rfl)) pa_nl rfl) rfl) rfl) rfl)) (fun _ => rfl) (bd_name 2) (by decide)) pa_nl rfl) rfl) (pe_one (t_cmp (op_ltX (u64 hr)) ops_lt (t_ix hr (t_v (by kernel_rfl)) (t_k rfl) (fun _ _ => rfl)) (t_ix hr (t_v (by kernel_rfl)) (t_k rfl) (fun _ _ => rfl)) (by kernel_rfl))))) pss_nilE))
def n_is_web_told : List Str := ["value", "one", "other", "door"]
theorem sc_is_web_told : FnScope n_is_web_told ["value"] (defScope s_is_web_told) := ⟨rfl, rfl, rfl, by decide +kernel, rfl, by decide +kernel, by decide +kernel⟩
def b_is_web_told : M Fw := (evSeq (evIf (evOrT (evNotT (evB (evOp (opIsi .tuple) (evCons (evVar 0) evNil)))) (evOrT (evB (evOp opNe (evCons (evOp opLenA (evCons (evVar 0) evNil)) (evCons (evCon (.int 2)) evNil)))) (evNotT (evB (evCall F_is_number_from (evCons (evOp opIxA (evCons (evVar 0) (evCons (evCon (.int 0)) evNil))) (evCons (evCon (.int 1)) (evCons (evCon (.int 9)) evNil)))))))) (evSeq (evRet (evCon (.bool false))) evNext) evNext) (evSeq (evIf (evOrT (evNotT (evB (evOp (opIsi .tuple) (evCons (evOp opIxA (evCons (evVar 0) (evCons (evCon (.int 1)) evNil))) evNil)))) (evNotT (evB (evOp opAll (evCons (evLc (itAny (evOp opIxA (evCons (evVar 0) (evCons (evCon (.int 1)) evNil)))) (gvName 3) evTrue (evCall F_is_door_told (evCons (evOp opIxA (evCons (evVar 0) (evCons (evCon (.int 0)) evNil))) (evCons (evVar 3) evNil))) [3]) evNil))))) (evSeq (evRet (evCon (.bool false))) evNext) evNext) (evSeq (evRet (evOp opAll (evCons (evLc (itZip (evCons (evOp opIxA (evCons (evVar 0) (evCons (evCon (.int 1)) evNil))) (evCons (evSl (evOp opIxA (evCons (evVar 0) (evCons (evCon (.int 1)) evNil))) (some (evCon (.int 1))) none) evNil))) (gvTup 2 (gvCons (gvName 1) (gvCons (gvName 2) gvNil))) evTrue (evOp opLt (evCons (evVar 1) (evCons (evVar 2) evNil))) [1, 2]) evNil))) evNext)))
def F_is_web_told : Fn := evFn 1 4 b_is_web_told
theorem ok_is_web_told {P : Program} {w : World} {K : PySem.W.Frag} {mg : Str → Option Value} {base : Heap} (T : HD K mg) : Cal P w K mg base 3 1 "is_web_told" F_is_web_told := by
  obtain ⟨fd, F⟩ := T.def_is_web_told.ex
  refine cal_of (k := 2) (N := n_is_web_told) (ps := ["value"]) (b := b_is_web_told) F T.def_is_web_told.g sc_is_web_told (F.bindsN fun _ _ _ _ _ _ us hl => match us, hl with | [_], _ => rfl) fun cdv A outer s H E hr => ?_
  have lv : Lv (cxOf (L2.CX P w) P w K mg base n_is_web_told "is_web_told" (defScope s_is_web_told) (He.ga K "is_web_told") cdv A outer s H E) E := passes_call (takes_of rfl rfl rfl rfl) fun _ _ _ _ h => h
  have hf := T.hf
  have c_is_number_from := ok_is_number_from (P := P) (w := w) (base := base) T
  have c_is_door_told := ok_is_door_told (P := P) (w := w) (base := base) T
  have k_MOST_ROOMS := T.k_MOST_ROOMS
  exact (pss_consE (ps_ifE (PW.pt (pw_orE (pt_notE (pt_valE (t_isi hf (by simp [free]) (by simp [free]) PyProof.Rows.Boot.«tuple» (by decide) (by kernel_rfl) (by kernel_rfl) (t_v (by kernel_rfl)) rfl) (fun _ => rfl))) (pw_orE (t_cmpT (op_neD (u64 hr)) ops_ne (t_blt hf call_lenA ops_lenA (by simp [free]) PyProof.Rows.Boot.«len» (by decide) (by kernel_rfl) (t_cons (t_v (by kernel_rfl)) pa_nl rfl) rfl) (t_k rfl) (by kernel_rfl)) (pw_or1 (pt_notE (pt_valE (t_call (c_is_number_from.mono (by decide)) hr (by kernel_rfl) lv (t_cons (t_ix hr (t_v (by kernel_rfl)) (t_k rfl) (fun _ _ => rfl)) (t_cons (t_k rfl) (t_cons (t_kon k_MOST_ROOMS (by kernel_rfl)) pa_nl rfl) rfl) rfl) rfl) (fun _ => rfl))))))) (pss_consE (ps_retE (t_k rfl)) pss_nilE) pss_nilE) (pss_consE (ps_ifE (PW.pt (pw_orE (pt_notE (pt_valE (t_isi hf (by simp [free]) (by simp [free]) PyProof.Rows.Boot.«tuple» (by decide) (by kernel_rfl) (by kernel_rfl) (t_ix hr (t_v (by kernel_rfl)) (t_k rfl) (fun _ _ => rfl)) rfl) (fun _ => rfl))) (pw_or1 (pt_notE (pt_valE (t_blt hf (cr_all rfl) ops_all (by simp [free]) PyProof.Rows.Boot.«all» (by decide) (by kernel_rfl) (t_cons (pe_lcE (own := [("door", 3)]) rfl sc_is_web_told.nd (pi_any (t_ix hr (t_v (by kernel_rfl)) (t_k rfl) (fun _ _ => rfl))) (blkOk_by (by kernel_rfl)) (fun s H C cl fp => (t_gn sc_is_web_told.nd (by kernel_rfl))) (fun s H C cl fp => pts_nilE) (fun s H C cl fp => (t_call (c_is_door_told.mono (by decide)) hr (by kernel_rfl) lv_no (t_cons (t_ix hr (t_v (by kernel_rfl)) (t_k rfl) (fun _ _ => rfl)) (t_cons (t_v (by kernel_rfl)) pa_nl rfl) rfl) rfl)) (fun _ => rfl) (bd_name 3) (by decide)) pa_nl rfl) rfl) (fun _ => rfl)))))) (pss_consE (ps_retE (t_k rfl)) pss_nilE) pss_nilE) (pss_consE (ps_retE (t_blt hf (cr_all rfl) ops_all (by simp [free]) PyProof.Rows.Boot.«all» (by decide) (by kernel_rfl) (t_cons (pe_lcE (own := [("one", 1), ("other", 2)]) rfl sc_is_web_told.nd (t_zip hf (by simp [free]) (by kernel_rfl) (t_cons (t_ix hr (t_v (by kernel_rfl)) (t_k rfl) (fun _ _ => rfl)) (t_cons (pe_slE (t_ix hr (t_v (by kernel_rfl)) (t_k rfl) (fun _ _ => rfl)) (t_k rfl) trivial) pa_nl rfl) rfl) rfl rfl) (blkOk_by (by kernel_rfl)) (fun s H C cl fp => (t_gt rfl (pgs_consE (t_gn sc_is_web_told.nd (by kernel_rfl)) (pgs_consE (t_gn sc_is_web_told.nd (by kernel_rfl)) pgs_nilE rfl) rfl) rfl rfl)) (fun s H C cl fp => pts_nilE) (fun s H C cl fp => (t_cmp (op_ltX (u64 hr)) ops_lt (t_v (by kernel_rfl)) (t_v (by kernel_rfl)) (by kernel_rfl))) (fun _ => rfl) (bd_tup (bds_cons (bd_name 1) (bds_cons (bd_name 2) bds_nil))) (by decide)) pa_nl rfl) rfl)) pss_nilE)))
def n_neighbours_in : List Str := ["web", "room", "one", "other"]
theorem sc_neighbours_in : FnScope n_neighbours_in ["web", "room"] (defScope s_neighbours_in) := ⟨rfl, rfl, rfl, by decide +kernel, rfl, by decide +kernel, by decide +kernel⟩
def b_neighbours_in : M Fw := (evSeq (evRet (evOp opSortedA (evCons (evLc (itAny (evOp opIxA (evCons (evVar 0) (evCons (evCon (.int 1)) evNil)))) (gvTup 2 (gvCons (gvName 2) (gvCons (gvName 3) gvNil))) (evB (evOp opInA (evCons (evVar 1) (evCons (evTup (evCons (evVar 2) (evCons (evVar 3) evNil))) evNil)))) (evIte (evB (evOp opEqA (evCons (evVar 2) (evCons (evVar 1) evNil)))) (evVar 3) (evVar 2)) [2, 3]) evNil))) evNext)
def F_neighbours_in : Fn := evFn 2 4 b_neighbours_in
theorem ok_neighbours_in {P : Program} {w : World} {K : PySem.W.Frag} {mg : Str → Option Value} {base : Heap} (T : HD K mg) : Cal P w K mg base 1 2 "neighbours_in" F_neighbours_in := by
  obtain ⟨fd, F⟩ := T.def_neighbours_in.ex
  refine cal_of (k := 0) (N := n_neighbours_in) (ps := ["web", "room"]) (b := b_neighbours_in) F T.def_neighbours_in.g sc_neighbours_in (F.bindsN fun _ _ _ _ _ _ us hl => match us, hl with | [_, _], _ => rfl) fun cdv A outer s H E hr => ?_
  have lv : Lv (cxOf (L2.CX P w) P w K mg base n_neighbours_in "neighbours_in" (defScope s_neighbours_in) (He.ga K "neighbours_in") cdv A outer s H E) E := passes_call (takes_of rfl rfl rfl rfl) fun _ _ _ _ h => h
  have hf := T.hf
  exact (pss_consE (ps_retE (t_blt hf (call_sortedA rfl (u64 hr)) ops_sortedA (by simp [free]) PyProof.Rows.Boot.«sorted» (by decide) (by kernel_rfl) (t_cons (pe_lcE (own := [("one", 2), ("other", 3)]) rfl sc_neighbours_in.nd (pi_any (t_ix hr (t_v (by kernel_rfl)) (t_k rfl) (fun _ _ => rfl))) (blkOk_by (by kernel_rfl)) (fun s H C cl fp => (t_gt rfl (pgs_consE (t_gn sc_neighbours_in.nd (by kernel_rfl)) (pgs_consE (t_gn sc_neighbours_in.nd (by kernel_rfl)) pgs_nilE rfl) rfl) rfl rfl)) (fun s H C cl fp => (pts_oneE (t_cmpT (op_inA (u66 hr)) ops_inA (t_v (by kernel_rfl)) (pe_tupE (t_cons (t_v (by kernel_rfl)) (t_cons (t_v (by kernel_rfl)) pa_nl rfl) rfl)) (by kernel_rfl)))) (fun s H C cl fp => (pe_iteE (t_cmpT (op_eqA (u64 hr)) ops_eqNil (t_v (by kernel_rfl)) (t_v (by kernel_rfl)) (by kernel_rfl)) (t_v (by kernel_rfl)) (t_v (by kernel_rfl)))) (fun _ => rfl) (bd_tup (bds_cons (bd_name 2) (bds_cons (bd_name 3) bds_nil))) (by decide)) pa_nl rfl) rfl)) pss_nilE)
def n_ask_web : List Str := ["web"]
theorem sc_ask_web : FnScope n_ask_web ["web"] (defScope s_ask_web) := ⟨rfl, rfl, rfl, by decide +kernel, rfl, by decide +kernel, by decide +kernel⟩
def b_ask_web : M Fw := (evSeq (evIf (evNotT (evB (evCall F_is_web_told (evCons (evVar 0) evNil)))) (evSeq (evRaise "NoHouse") evNext) evNext) evNext)
def F_ask_web : Fn := evFn 1 1 b_ask_web
theorem ok_ask_web {P : Program} {w : World} {K : PySem.W.Frag} {mg : Str → Option Value} {base : Heap} (T : HD K mg) : Cal P w K mg base 4 1 "ask_web" F_ask_web := by
  obtain ⟨fd, F⟩ := T.def_ask_web.ex
  refine cal_of (k := 3) (N := n_ask_web) (ps := ["web"]) (b := b_ask_web) F T.def_ask_web.g sc_ask_web (F.bindsN fun _ _ _ _ _ _ us hl => match us, hl with | [_], _ => rfl) fun cdv A outer s H E hr => ?_
  have lv : Lv (cxOf (L2.CX P w) P w K mg base n_ask_web "ask_web" (defScope s_ask_web) (He.ga K "ask_web") cdv A outer s H E) E := passes_call (takes_of rfl rfl rfl rfl) fun _ _ _ _ h => h
  have hf := T.hf
  have c_is_web_told := ok_is_web_told (P := P) (w := w) (base := base) T
  exact (pss_consE (ps_ifE (pt_notE (pt_valE (t_call (c_is_web_told.mono (by decide)) hr (by kernel_rfl) lv (t_cons (t_v (by kernel_rfl)) pa_nl rfl) rfl) (fun _ => rfl))) (pss_consE (t_raise PySem.F.excBase_ValueError T.x_NoHouse rfl (takes_of rfl rfl rfl rfl) (by kernel_rfl)) pss_nilE) pss_nilE) pss_nilE)
def n_rooms_met_without : List Str := ["web", "start", "shut", "met", "waiting", "other"]
theorem sc_rooms_met_without : FnScope n_rooms_met_without ["web", "start", "shut"] (defScope s_rooms_met_without) := ⟨rfl, rfl, rfl, by decide +kernel, rfl, by decide +kernel, by decide +kernel⟩
def b_rooms_met_without : M Fw := (evSeq (evPar [3, 4] (evNCons (evDict1 (evVar 1) (evCon (.bool true))) (evNCons (evLst (evCons (evVar 1) evNil)) evNNil))) (evSeq (evWhile (evB (evOp opNe (evCons (evVar 4) (evCons (evLst evNil) evNil)))) (evSeq (evFor (itAny (evCall F_neighbours_in (evCons (evVar 0) (evCons (evMut 4 .lst mPop false evNil) evNil)))) (gvName 5) (evSeq (evIf (evAndT (evB (evOp opNotInA (evCons (evVar 5) (evCons (evVar 3) evNil)))) (evB (evOp opNe (evCons (evVar 5) (evCons (evVar 2) evNil))))) (evSeq (evStore 3 sAny (evVar 5) (evCon (.bool true))) (evSeq (evDrop (evMut 4 .lst mAppend false (evCons (evVar 5) evNil))) evNext)) evNext) evNext)) evNext) 300) (evSeq (evRet (evOp opLenA (evCons (evVar 3) evNil))) evNext)))
def F_rooms_met_without : Fn := evFn 3 6 b_rooms_met_without
theorem ok_rooms_met_without {P : Program} {w : World} {K : PySem.W.Frag} {mg : Str → Option Value} {base : Heap} (T : HD K mg) : Cal P w K mg base 2 3 "rooms_met_without" F_rooms_met_without := by
  obtain ⟨fd, F⟩ := T.def_rooms_met_without.ex
  refine cal_of (k := 1) (N := n_rooms_met_without) (ps := ["web", "start", "shut"]) (b := b_rooms_met_without) F T.def_rooms_met_without.g sc_rooms_met_without (F.bindsN fun _ _ _ _ _ _ us hl => match us, hl with | [_, _, _], _ => rfl) fun cdv A outer s H E hr => ?_
  have lv : Lv (cxOf (L2.CX P w) P w K mg base n_rooms_met_without "rooms_met_without" (defScope s_rooms_met_without) (He.ga K "rooms_met_without") cdv A outer s H E) E := passes_call (takes_of rfl rfl rfl rfl) fun _ _ _ _ h => h
  have hf := T.hf
  have c_neighbours_in := ok_neighbours_in (P := P) (w := w) (base := base) T
  exact (pss_consE (t_par2 rfl sc_rooms_met_without.nd (by kernel_rfl) (by kernel_rfl) (by decide) (pan_cons (pe_dict1E (u64 hr) (t_v (by kernel_rfl)) (t_k rfl)) (pan_cons (pe_lstE (t_cons (t_v (by kernel_rfl)) pa_nl rfl)) pan_nil rfl) rfl) (by kernel_rfl) (by kernel_rfl)) (pss_consE (ps_whileE (passes_of rfl) (t_cmpT (op_neD (u64 hr)) ops_ne (t_v (by kernel_rfl)) (pe_lstE pa_nl) (by kernel_rfl)) (pss_consE (t_for (passes_of rfl) rfl (pi_any (t_call (c_neighbours_in.mono (by decide)) hr (by kernel_rfl) lv (t_cons (t_v (by kernel_rfl)) (t_cons (t_pop (by kernel_rfl) rfl) pa_nl rfl) rfl) rfl)) (t_gn sc_rooms_met_without.nd (by kernel_rfl)) (pss_consE (ps_ifE (PW.pt (pw_andE (t_cmpT (op_notInA (u66 hr)) ops_notInA (t_v (by kernel_rfl)) (t_v (by kernel_rfl)) (by kernel_rfl)) (pw_and1 (t_cmpT (op_neD (u64 hr)) ops_ne (t_v (by kernel_rfl)) (t_v (by kernel_rfl)) (by kernel_rfl))))) (pss_consE (t_store hr (by kernel_rfl) (t_v (by kernel_rfl)) (t_k rfl) rfl) (pss_consE (ps_exprE (t_append (by kernel_rfl) (t_cons (t_v (by kernel_rfl)) pa_nl rfl) rfl rfl) (by kernel_rfl)) pss_nilE)) pss_nilE) pss_nilE) (fun _ => rfl)) pss_nilE)) (pss_consE (ps_retE (t_blt hf call_lenA ops_lenA (by simp [free]) PyProof.Rows.Boot.«len» (by decide) (by kernel_rfl) (t_cons (t_v (by kernel_rfl)) pa_nl rfl) rfl)) pss_nilE)))
def n_is_whole_web : List Str := ["web", "shut"]
theorem sc_is_whole_web : FnScope n_is_whole_web ["web"] (defScope s_is_whole_web) := ⟨rfl, rfl, rfl, by decide +kernel, rfl, by decide +kernel, by decide +kernel⟩
def b_is_whole_web : M Fw := (evSeq (evIf (evOrT (evB (evOp opLt (evCons (evOp opIxA (evCons (evVar 0) (evCons (evCon (.int 0)) evNil))) (evCons (evCon (.int 2)) evNil)))) (evB (evOp opLt (evCons (evCall F_rooms_met_without (evCons (evVar 0) (evCons (evCon (.int 0)) (evCons (evCon .none) evNil)))) (evCons (evOp opIxA (evCons (evVar 0) (evCons (evCon (.int 0)) evNil))) evNil))))) (evSeq (evRet (evCon (.bool false))) evNext) evNext) (evSeq (evFor (itRng1 (evCons (evOp opIxA (evCons (evVar 0) (evCons (evCon (.int 0)) evNil))) evNil)) (gvName 1) (evSeq (evIf (evB (evOp opLt (evCons (evCall F_rooms_met_without (evCons (evVar 0) (evCons (evIte (evB (evOp opEqA (evCons (evVar 1) (evCons (evCon (.int 0)) evNil)))) (evCon (.int 1)) (evCon (.int 0))) (evCons (evVar 1) evNil)))) (evCons (evOp opSub (evCons (evOp opIxA (evCons (evVar 0) (evCons (evCon (.int 0)) evNil))) (evCons (evCon (.int 1)) evNil))) evNil)))) (evSeq (evRet (evCon (.bool false))) evNext) evNext) evNext)) (evSeq (evRet (evCon (.bool true))) evNext)))
def F_is_whole_web : Fn := evFn 1 2 b_is_whole_web
theorem ok_is_whole_web {P : Program} {w : World} {K : PySem.W.Frag} {mg : Str → Option Value} {base : Heap} (T : HD K mg) : Cal P w K mg base 3 1 "is_whole_web" F_is_whole_web := by
  obtain ⟨fd, F⟩ := T.def_is_whole_web.ex
  refine cal_of (k := 2) (N := n_is_whole_web) (ps := ["web"]) (b := b_is_whole_web) F T.def_is_whole_web.g sc_is_whole_web (F.bindsN fun _ _ _ _ _ _ us hl => match us, hl with | [_], _ => rfl) fun cdv A outer s H E hr => ?_
  have lv : Lv (cxOf (L2.CX P w) P w K mg base n_is_whole_web "is_whole_web" (defScope s_is_whole_web) (He.ga K "is_whole_web") cdv A outer s H E) E := passes_call (takes_of rfl rfl rfl rfl) fun _ _ _ _ h => h
  have hf := T.hf
  have c_rooms_met_without := ok_rooms_met_without (P := P) (w := w) (base := base) T
  exact (pss_consE (ps_ifE (PW.pt (pw_orE (t_cmpT (op_ltX (u64 hr)) ops_lt (t_ix hr (t_v (by kernel_rfl)) (t_k rfl) (fun _ _ => rfl)) (t_k rfl) (by kernel_rfl)) (pw_or1 (t_cmpT (op_ltX (u64 hr)) ops_lt (t_call (c_rooms_met_without.mono (by decide)) hr (by kernel_rfl) lv (t_cons (t_v (by kernel_rfl)) (t_cons (t_k rfl) (t_cons (t_k rfl) pa_nl rfl) rfl) rfl) rfl) (t_ix hr (t_v (by kernel_rfl)) (t_k rfl) (fun _ _ => rfl)) (by kernel_rfl))))) (pss_consE (ps_retE (t_k rfl)) pss_nilE) pss_nilE) (pss_consE (t_for (passes_of rfl) rfl (t_rng1 hf (by simp [free]) (by kernel_rfl) (t_cons (t_ix hr (t_v (by kernel_rfl)) (t_k rfl) (fun _ _ => rfl)) pa_nl rfl) rfl) (t_gn sc_is_whole_web.nd (by kernel_rfl)) (pss_consE (ps_ifE (t_cmpT (op_ltX (u64 hr)) ops_lt (t_call (c_rooms_met_without.mono (by decide)) hr (by kernel_rfl) lv (t_cons (t_v (by kernel_rfl)) (t_cons (pe_iteE (t_cmpT (op_eqA (u64 hr)) ops_eqNil (t_v (by kernel_rfl)) (t_k rfl) (by kernel_rfl)) (t_k rfl) (t_k rfl)) (t_cons (t_v (by kernel_rfl)) pa_nl rfl) rfl) rfl) rfl) (t_op2 op_sub ops_sub (t_ix hr (t_v (by kernel_rfl)) (t_k rfl) (fun _ _ => rfl)) (t_k rfl)) (by kernel_rfl)) (pss_consE (ps_retE (t_k rfl)) pss_nilE) pss_nilE) pss_nilE) (fun _ => rfl)) (pss_consE (ps_retE (t_k rfl)) pss_nilE)))
def n_empty_room : List Str := ["stand", "room", "thing"]
theorem sc_empty_room : FnScope n_empty_room ["stand"] (defScope s_empty_room) := ⟨rfl, rfl, rfl, by decide +kernel, rfl, by decide +kernel, by decide +kernel⟩
def b_empty_room : M Fw := (evSeq (evRet (evOp opIxA (evCons (evLc (itEnum (evCons (evFzv 0) evNil)) (gvTup 2 (gvCons (gvName 1) (gvCons (gvName 2) gvNil))) (evB (evOp opIs (evCons (evVar 2) (evCons (evCon .none) evNil)))) (evVar 1) [1, 2]) (evCons (evCon (.int 0)) evNil)))) evNext)
def F_empty_room : Fn := evFn 1 3 b_empty_room
theorem ok_empty_room {P : Program} {w : World} {K : PySem.W.Frag} {mg : Str → Option Value} {base : Heap} (T : HD K mg) : Cal P w K mg base 1 1 "empty_room" F_empty_room := by
  obtain ⟨fd, F⟩ := T.def_empty_room.ex
  refine cal_of (k := 0) (N := n_empty_room) (ps := ["stand"]) (b := b_empty_room) F T.def_empty_room.g sc_empty_room (F.bindsN fun _ _ _ _ _ _ us hl => match us, hl with | [_], _ => rfl) fun cdv A outer s H E hr => ?_
  have lv : Lv (cxOf (L2.CX P w) P w K mg base n_empty_room "empty_room" (defScope s_empty_room) (He.ga K "empty_room") cdv A outer s H E) E := passes_call (takes_of rfl rfl rfl rfl) fun _ _ _ _ h => h
  have hf := T.hf
  exact (pss_consE (ps_retE (t_ix hr (pe_lcE (own := [("room", 1), ("thing", 2)]) rfl sc_empty_room.nd (t_enum hf (by simp [free]) (by kernel_rfl) (t_cons (t_fv (by kernel_rfl)) pa_nl rfl) rfl) (blkOk_by (by kernel_rfl)) (fun s H C cl fp => (t_gt rfl (pgs_consE (t_gn sc_empty_room.nd (by kernel_rfl)) (pgs_consE (t_gn sc_empty_room.nd (by kernel_rfl)) pgs_nilE rfl) rfl) rfl rfl)) (fun s H C cl fp => (pts_oneE (t_cmpT op_isD ops_is (t_v (by kernel_rfl)) (t_k rfl) (by kernel_rfl)))) (fun s H C cl fp => (t_v (by kernel_rfl))) (fun _ => rfl) (bd_tup (bds_cons (bd_name 1) (bds_cons (bd_name 2) bds_nil))) (by decide)) (t_k rfl) (fun _ _ => rfl))) pss_nilE)
def n_slid_into : List Str := ["stand", "room", "empty", "found"]
theorem sc_slid_into : FnScope n_slid_into ["stand", "room"] (defScope s_slid_into) := ⟨rfl, rfl, rfl, by decide +kernel, rfl, by decide +kernel, by decide +kernel⟩
def b_slid_into : M Fw := (evSeq (evPar [2, 3] (evNCons (evCall F_empty_room (evCons (evVar 0) evNil)) (evNCons (evOp opListA (evCons (evVar 0) evNil)) evNNil))) (evSeq (evBind (evTup (evCons (evOp opIxA (evCons (evVar 0) (evCons (evVar 1) evNil))) (evCons (evCon .none) evNil))) (gvTup 2 (gvCons (gvSub 3 (evVar 2)) (gvCons (gvSub 3 (evVar 1)) gvNil)))) (evSeq (evRet (evOp opTuple (evCons (evVar 3) evNil))) evNext)))
def F_slid_into : Fn := evFn 2 4 b_slid_into
theorem ok_slid_into {P : Program} {w : World} {K : PySem.W.Frag} {mg : Str → Option Value} {base : Heap} (T : HD K mg) : Cal P w K mg base 2 2 "slid_into" F_slid_into := by
  obtain ⟨fd, F⟩ := T.def_slid_into.ex
  refine cal_of (k := 1) (N := n_slid_into) (ps := ["stand", "room"]) (b := b_slid_into) F T.def_slid_into.g sc_slid_into (F.bindsN fun _ _ _ _ _ _ us hl => match us, hl with | [_, _], _ => rfl) fun cdv A outer s H E hr => ?_
  have lv : Lv (cxOf (L2.CX P w) P w K mg base n_slid_into "slid_into" (defScope s_slid_into) (He.ga K "slid_into") cdv A outer s H E) E := passes_call (takes_of rfl rfl rfl rfl) fun _ _ _ _ h => h
  have hf := T.hf
  have c_empty_room := ok_empty_room (P := P) (w := w) (base := base) T
  exact (pss_consE (t_par2 rfl sc_slid_into.nd (by kernel_rfl) (by kernel_rfl) (by decide) (pan_cons (t_call (c_empty_room.mono (by decide)) hr (by kernel_rfl) lv (t_cons (t_v (by kernel_rfl)) pa_nl rfl) rfl) (pan_cons (t_bty hf (call_listA rfl) ops_listA (by simp [free]) PyProof.Rows.Boot.«list» (by decide) (by kernel_rfl) (t_cons (t_v (by kernel_rfl)) pa_nl rfl) rfl) pan_nil rfl) rfl) (by kernel_rfl) (by kernel_rfl)) (pss_consE (ps_bindX (pe_tupE (t_cons (t_ix hr (t_v (by kernel_rfl)) (t_v (by kernel_rfl)) (fun _ _ => rfl)) (t_cons (t_k rfl) pa_nl rfl) rfl)) (t_gtX rfl (pgs_consX (t_gsub hr (by kernel_rfl) (t_v (by kernel_rfl)) rfl) (pgs_consX (t_gsub hr (by kernel_rfl) (t_v (by kernel_rfl)) rfl) pgs_nilX rfl) rfl) rfl rfl) (by kernel_rfl) (by kernel_rfl) rfl) (pss_consE (ps_retE (t_bty hf call_tuple_of ops_tuple (by simp [free]) PyProof.Rows.Boot.«tuple» (by decide) (by kernel_rfl) (t_cons (t_v (by kernel_rfl)) pa_nl rfl) rfl)) pss_nilE)))
def n_stands_from : List Str := ["web", "stand", "found", "waiting", "at", "here", "room", "goal"]
theorem sc_stands_from : FnScope n_stands_from ["web", "stand"] (defScope s_stands_from) := ⟨rfl, rfl, rfl, by decide +kernel, rfl, by decide +kernel, by decide +kernel⟩
def b_stands_from : M Fw := (evSeq (evPar [2, 3, 4] (evNCons (evDict1 (evVar 1) (evCon .none)) (evNCons (evLst (evCons (evVar 1) evNil)) (evNCons (evCon (.int 0)) evNNil)))) (evSeq (evWhile (evB (evOp opLt (evCons (evVar 4) (evCons (evOp opLenA (evCons (evVar 3) evNil)) evNil)))) (evSeq (evSet 5 (evOp opIxA (evCons (evVar 3) (evCons (evVar 4) evNil)))) (evSeq (evAug 4 (evCon (.int 1))) (evSeq (evFor (itAny (evCall F_neighbours_in (evCons (evVar 0) (evCons (evCall F_empty_room (evCons (evVar 5) evNil)) evNil)))) (gvName 6) (evSeq (evSet 7 (evCall F_slid_into (evCons (evVar 5) (evCons (evVar 6) evNil)))) (evSeq (evIf (evB (evOp opNotInA (evCons (evVar 7) (evCons (evVar 2) evNil)))) (evSeq (evStore 2 sAny (evVar 7) (evTup (evCons (evVar 5) (evCons (evVar 6) evNil)))) (evSeq (evDrop (evMut 3 .lst mAppend false (evCons (evVar 7) evNil))) evNext)) evNext) evNext))) evNext))) 300) (evSeq (evRet (evVar 2)) evNext)))
def F_stands_from : Fn := evFn 2 8 b_stands_from
theorem ok_stands_from {P : Program} {w : World} {K : PySem.W.Frag} {mg : Str → Option Value} {base : Heap} (T : HD K mg) : Cal P w K mg base 3 2 "stands_from" F_stands_from := by
  obtain ⟨fd, F⟩ := T.def_stands_from.ex
  refine cal_of (k := 2) (N := n_stands_from) (ps := ["web", "stand"]) (b := b_stands_from) F T.def_stands_from.g sc_stands_from (F.bindsN fun _ _ _ _ _ _ us hl => match us, hl with | [_, _], _ => rfl) fun cdv A outer s H E hr => ?_
  have lv : Lv (cxOf (L2.CX P w) P w K mg base n_stands_from "stands_from" (defScope s_stands_from) (He.ga K "stands_from") cdv A outer s H E) E := passes_call (takes_of rfl rfl rfl rfl) fun _ _ _ _ h => h
  have hf := T.hf
  have c_neighbours_in := ok_neighbours_in (P := P) (w := w) (base := base) T
  have c_empty_room := ok_empty_room (P := P) (w := w) (base := base) T
  have c_slid_into := ok_slid_into (P := P) (w := w) (base := base) T
  exact (pss_consE (t_par3 rfl sc_stands_from.nd (by kernel_rfl) (by kernel_rfl) (by kernel_rfl) (by decide) (by decide) (by decide) (pan_cons (pe_dict1E (u64 hr) (t_v (by kernel_rfl)) (t_k rfl)) (pan_cons (pe_lstE (t_cons (t_v (by kernel_rfl)) pa_nl rfl)) (pan_cons (t_k rfl) pan_nil rfl) rfl) rfl) (by kernel_rfl) (by kernel_rfl)) (pss_consE (ps_whileE (passes_of rfl) (t_cmpT (op_ltX (u64 hr)) ops_lt (t_v (by kernel_rfl)) (t_blt hf call_lenA ops_lenA (by simp [free]) PyProof.Rows.Boot.«len» (by decide) (by kernel_rfl) (t_cons (t_v (by kernel_rfl)) pa_nl rfl) rfl) (by kernel_rfl)) (pss_consE (t_set sc_stands_from.nd (by kernel_rfl) (t_ix hr (t_v (by kernel_rfl)) (t_v (by kernel_rfl)) (fun _ _ => rfl)) (by kernel_rfl)) (pss_consE (t_aug sc_stands_from.nd (by kernel_rfl) (t_k rfl)) (pss_consE (t_for (passes_of rfl) rfl (pi_any (t_call (c_neighbours_in.mono (by decide)) hr (by kernel_rfl) lv (t_cons (t_v (by kernel_rfl)) (t_cons (t_call (c_empty_room.mono (by decide)) hr (by kernel_rfl) lv (t_cons (t_v (by kernel_rfl)) pa_nl rfl) rfl) pa_nl rfl) rfl) rfl)) (t_gn sc_stands_from.nd (by kernel_rfl)) (pss_consE (t_set sc_stands_from.nd (by kernel_rfl) (t_call (c_slid_into.mono (by decide)) hr (by kernel_rfl) lv (t_cons (t_v (by kernel_rfl)) (t_cons (t_v (by kernel_rfl)) pa_nl rfl) rfl) rfl) (by kernel_rfl)) (pss_consE (ps_ifE (t_cmpT (op_notInA (u66 hr)) ops_notInA (t_v (by kernel_rfl)) (t_v (by kernel_rfl)) (by kernel_rfl)) (pss_consE (t_store hr (by kernel_rfl) (t_v (by kernel_rfl)) (pe_tupE (t_cons (t_v (by kernel_rfl)) (t_cons (t_v (by kernel_rfl)) pa_nl rfl) rfl)) rfl) (pss_consE (ps_exprE (t_append (by kernel_rfl) (t_cons (t_v (by kernel_rfl)) pa_nl rfl) rfl rfl) (by kernel_rfl)) pss_nilE)) pss_nilE) pss_nilE)) (fun _ => rfl)) pss_nilE)))) (pss_consE (ps_retE (t_v (by kernel_rfl))) pss_nilE)))
def n_rooms_to : List Str := ["found", "stand", "rooms", "room"]
theorem sc_rooms_to : FnScope n_rooms_to ["found", "stand"] (defScope s_rooms_to) := ⟨rfl, rfl, rfl, by decide +kernel, rfl, by decide +kernel, by decide +kernel⟩
def b_rooms_to : M Fw := (evSeq (evSet 2 (evLst evNil)) (evSeq (evWhile (evB (evOp opIsNot (evCons (evOp opIxA (evCons (evVar 0) (evCons (evVar 1) evNil))) (evCons (evCon .none) evNil)))) (evSeq (evBind (evOp opIxA (evCons (evVar 0) (evCons (evVar 1) evNil))) (gvTup 2 (gvCons (gvName 1) (gvCons (gvName 3) gvNil)))) (evSeq (evDrop (evMut 2 .lst mAppend false (evCons (evVar 3) evNil))) evNext)) 300) (evSeq (fun _ => none) evNext)))
def F_rooms_to : Fn := evFn 2 4 b_rooms_to
theorem ok_rooms_to {P : Program} {w : World} {K : PySem.W.Frag} {mg : Str → Option Value} {base : Heap} (T : HD K mg) : Cal P w K mg base 1 2 "rooms_to" F_rooms_to := by
  obtain ⟨fd, F⟩ := T.def_rooms_to.ex
  refine cal_of (k := 0) (N := n_rooms_to) (ps := ["found", "stand"]) (b := b_rooms_to) F T.def_rooms_to.g sc_rooms_to (F.bindsN fun _ _ _ _ _ _ us hl => match us, hl with | [_, _], _ => rfl) fun cdv A outer s H E hr => ?_
  have lv : Lv (cxOf (L2.CX P w) P w K mg base n_rooms_to "rooms_to" (defScope s_rooms_to) (He.ga K "rooms_to") cdv A outer s H E) E := passes_call (takes_of rfl rfl rfl rfl) fun _ _ _ _ h => h
  have hf := T.hf
  exact (pss_consE (t_set sc_rooms_to.nd (by kernel_rfl) (pe_lstE pa_nl) (by kernel_rfl)) (pss_consE (ps_whileE (passes_of rfl) (t_cmpT op_isNotD ops_isnot (t_ix hr (t_v (by kernel_rfl)) (t_v (by kernel_rfl)) (fun _ _ => rfl)) (t_k rfl) (by kernel_rfl)) (pss_consE (ps_bindE (t_ix hr (t_v (by kernel_rfl)) (t_v (by kernel_rfl)) (fun _ _ => rfl)) (t_gt rfl (pgs_consE (t_gn sc_rooms_to.nd (by kernel_rfl)) (pgs_consE (t_gn sc_rooms_to.nd (by kernel_rfl)) pgs_nilE rfl) rfl) rfl rfl) (by kernel_rfl) (by kernel_rfl) rfl) (pss_consE (ps_exprE (t_append (by kernel_rfl) (t_cons (t_v (by kernel_rfl)) pa_nl rfl) rfl rfl) (by kernel_rfl)) pss_nilE))) (pss_consE t_skip1 pss_nilE)))
def n_first_stand : List Str := ["web"]
theorem sc_first_stand : FnScope n_first_stand ["web"] (defScope s_first_stand) := ⟨rfl, rfl, rfl, by decide +kernel, rfl, by decide +kernel, by decide +kernel⟩
def b_first_stand : M Fw := (evSeq (fun _ => none) evNext)
def F_first_stand : Fn := evFn 1 1 b_first_stand
theorem ok_first_stand {P : Program} {w : World} {K : PySem.W.Frag} {mg : Str → Option Value} {base : Heap} (T : HD K mg) : Cal P w K mg base 1 1 "first_stand" F_first_stand := by
  obtain ⟨fd, F⟩ := T.def_first_stand.ex
  refine cal_of (k := 0) (N := n_first_stand) (ps := ["web"]) (b := b_first_stand) F T.def_first_stand.g sc_first_stand (F.bindsN fun _ _ _ _ _ _ us hl => match us, hl with | [_], _ => rfl) fun cdv A outer s H E hr => ?_
  have lv : Lv (cxOf (L2.CX P w) P w K mg base n_first_stand "first_stand" (defScope s_first_stand) (He.ga K "first_stand") cdv A outer s H E) E := passes_call (takes_of rfl rfl rfl rfl) fun _ _ _ _ h => h
  have hf := T.hf
  exact (pss_consE t_skip1 pss_nilE)
def n_hues_of : List Str := ["web", "found", "waiting", "here", "other"]
theorem sc_hues_of : FnScope n_hues_of ["web"] (defScope s_hues_of) := ⟨rfl, rfl, rfl, by decide +kernel, rfl, by decide +kernel, by decide +kernel⟩
def b_hues_of : M Fw := (evSeq (evPar [1, 2] (evNCons (evDict1 (evCon (.int 0)) (evCon (.int 0))) (evNCons (evLst (evCons (evCon (.int 0)) evNil)) evNNil))) (evSeq (evWhile (evB (evOp opNe (evCons (evVar 2) (evCons (evLst evNil) evNil)))) (evSeq (evSet 3 (evMut 2 .lst mPop false evNil)) (evSeq (evFor (itAny (evCall F_neighbours_in (evCons (evVar 0) (evCons (evVar 3) evNil)))) (gvName 4) (evSeq (evIf (evB (evOp opNotInA (evCons (evVar 4) (evCons (evVar 1) evNil)))) (evSeq (evStore 1 sAny (evVar 4) (evOp opSub (evCons (evCon (.int 1)) (evCons (evOp opIxA (evCons (evVar 1) (evCons (evVar 3) evNil))) evNil)))) (evSeq (evDrop (evMut 2 .lst mAppend false (evCons (evVar 4) evNil))) evNext)) (evSeq (evIf (evB (evOp opEqA (evCons (evOp opIxA (evCons (evVar 1) (evCons (evVar 4) evNil))) (evCons (evOp opIxA (evCons (evVar 1) (evCons (evVar 3) evNil))) evNil)))) (evSeq (evRet (evCon .none)) evNext) evNext) evNext)) evNext)) evNext)) 300) (evSeq (evRet (evVar 1)) evNext)))
def F_hues_of : Fn := evFn 1 5 b_hues_of
theorem ok_hues_of {P : Program} {w : World} {K : PySem.W.Frag} {mg : Str → Option Value} {base : Heap} (T : HD K mg) : Cal P w K mg base 2 1 "hues_of" F_hues_of := by
  obtain ⟨fd, F⟩ := T.def_hues_of.ex
  refine cal_of (k := 1) (N := n_hues_of) (ps := ["web"]) (b := b_hues_of) F T.def_hues_of.g sc_hues_of (F.bindsN fun _ _ _ _ _ _ us hl => match us, hl with | [_], _ => rfl) fun cdv A outer s H E hr => ?_
  have lv : Lv (cxOf (L2.CX P w) P w K mg base n_hues_of "hues_of" (defScope s_hues_of) (He.ga K "hues_of") cdv A outer s H E) E := passes_call (takes_of rfl rfl rfl rfl) fun _ _ _ _ h => h
  have hf := T.hf
  have c_neighbours_in := ok_neighbours_in (P := P) (w := w) (base := base) T
  exact (pss_consE (t_par2 rfl sc_hues_of.nd (by kernel_rfl) (by kernel_rfl) (by decide) (pan_cons (pe_dict1E (u64 hr) (t_k rfl) (t_k rfl)) (pan_cons (pe_lstE (t_cons (t_k rfl) pa_nl rfl)) pan_nil rfl) rfl) (by kernel_rfl) (by kernel_rfl)) (pss_consE (ps_whileE (passes_of rfl) (t_cmpT (op_neD (u64 hr)) ops_ne (t_v (by kernel_rfl)) (pe_lstE pa_nl) (by kernel_rfl)) (pss_consE (t_set sc_hues_of.nd (by kernel_rfl) (t_pop (by kernel_rfl) rfl) (by kernel_rfl)) (pss_consE (t_for (passes_of rfl) rfl (pi_any (t_call (c_neighbours_in.mono (by decide)) hr (by kernel_rfl) lv (t_cons (t_v (by kernel_rfl)) (t_cons (t_v (by kernel_rfl)) pa_nl rfl) rfl) rfl)) (t_gn sc_hues_of.nd (by kernel_rfl)) (pss_consE (ps_ifE (t_cmpT (op_notInA (u66 hr)) ops_notInA (t_v (by kernel_rfl)) (t_v (by kernel_rfl)) (by kernel_rfl)) (pss_consE (t_store hr (by kernel_rfl) (t_v (by kernel_rfl)) (t_op2 op_sub ops_sub (t_k rfl) (t_ix hr (t_v (by kernel_rfl)) (t_v (by kernel_rfl)) (fun _ _ => rfl))) rfl) (pss_consE (ps_exprE (t_append (by kernel_rfl) (t_cons (t_v (by kernel_rfl)) pa_nl rfl) rfl rfl) (by kernel_rfl)) pss_nilE)) (pss_consE (ps_ifE (t_cmpT (op_eqA (u64 hr)) ops_eqNil (t_ix hr (t_v (by kernel_rfl)) (t_v (by kernel_rfl)) (fun _ _ => rfl)) (t_ix hr (t_v (by kernel_rfl)) (t_v (by kernel_rfl)) (fun _ _ => rfl)) (by kernel_rfl)) (pss_consE (ps_retE (t_k rfl)) pss_nilE) pss_nilE) pss_nilE)) pss_nilE) (fun _ => rfl)) pss_nilE))) (pss_consE (ps_retE (t_v (by kernel_rfl))) pss_nilE)))
def n_sign_of : List Str := ["web", "stand", "hues", "row", "total", "at", "thing", "other"]
theorem sc_sign_of : FnScope n_sign_of ["web", "stand"] (defScope s_sign_of) := ⟨rfl, rfl, rfl, by decide +kernel, rfl, by decide +kernel, by decide +kernel⟩
def b_sign_of : M Fw := (evSeq (evSet 2 (evCall F_hues_of (evCons (evVar 0) evNil))) (evSeq (evIf (evB (evOp opIs (evCons (evVar 2) (evCons (evCon .none) evNil)))) (evSeq (evRet (evCon .none)) evNext) evNext) (evSeq (evSet 3 (evLc (itAny (evFzv 1)) (gvName 6) evTrue (evIte (evB (evOp opIs (evCons (evVar 6) (evCons (evCon .none) evNil)))) (evCon (.int 0)) (evVar 6)) [6])) (evSeq (evSet 4 (evOp opIxA (evCons (evVar 2) (evCons (evCall F_empty_room (evCons (evVar 1) evNil)) evNil)))) (evSeq (evFor (itEnum (evCons (evFzv 3) evNil)) (gvTup 2 (gvCons (gvName 5) (gvCons (gvName 6) gvNil))) (evSeq (evAug 4 (evOp opLenA (evCons (evLc (itAny (evSl (evVar 3) (some (evOp opAdd (evCons (evVar 5) (evCons (evCon (.int 1)) evNil)))) none)) (gvName 7) (evB (evOp opLt (evCons (evVar 7) (evCons (evVar 6) evNil)))) (evVar 7) [7]) evNil))) evNext)) (evSeq (evRet (evOp opMod (evCons (evVar 4) (evCons (evCon (.int 2)) evNil)))) evNext))))))
def F_sign_of : Fn := evFn 2 8 b_sign_of
theorem ok_sign_of {P : Program} {w : World} {K : PySem.W.Frag} {mg : Str → Option Value} {base : Heap} (T : HD K mg) : Cal P w K mg base 3 2 "sign_of" F_sign_of := by
  obtain ⟨fd, F⟩ := T.def_sign_of.ex
  refine cal_of (k := 2) (N := n_sign_of) (ps := ["web", "stand"]) (b := b_sign_of) F T.def_sign_of.g sc_sign_of (F.bindsN fun _ _ _ _ _ _ us hl => match us, hl with | [_, _], _ => rfl) fun cdv A outer s H E hr => ?_
  have lv : Lv (cxOf (L2.CX P w) P w K mg base n_sign_of "sign_of" (defScope s_sign_of) (He.ga K "sign_of") cdv A outer s H E) E := passes_call (takes_of rfl rfl rfl rfl) fun _ _ _ _ h => h
  have hf := T.hf
  have c_hues_of := ok_hues_of (P := P) (w := w) (base := base) T
  have c_empty_room := ok_empty_room (P := P) (w := w) (base := base) T
  exact (pss_consE (t_set sc_sign_of.nd (by kernel_rfl) (t_call (c_hues_of.mono (by decide)) hr (by kernel_rfl) lv (t_cons (t_v (by kernel_rfl)) pa_nl rfl) rfl) (by kernel_rfl)) (pss_consE (ps_ifE (t_cmpT op_isD ops_is (t_v (by kernel_rfl)) (t_k rfl) (by kernel_rfl)) (pss_consE (ps_retE (t_k rfl)) pss_nilE) pss_nilE) (pss_consE (t_setLc (own := [("thing", 6)]) rfl sc_sign_of.nd (by kernel_rfl) (by kernel_rfl) (pi_any (t_fv (by kernel_rfl))) (blkOk_by (by kernel_rfl)) (fun s H C cl fp => (t_gn sc_sign_of.nd (by kernel_rfl))) (fun s H C cl fp => pts_nilE) (fun s H C cl fp => (pe_iteE (t_cmpT op_isD ops_is (t_v (by kernel_rfl)) (t_k rfl) (by kernel_rfl)) (t_k rfl) (t_v (by kernel_rfl)))) (fun _ => rfl) (bd_name 6) (by decide)) (pss_consE (t_set sc_sign_of.nd (by kernel_rfl) (t_ix hr (t_v (by kernel_rfl)) (t_call (c_empty_room.mono (by decide)) hr (by kernel_rfl) lv (t_cons (t_v (by kernel_rfl)) pa_nl rfl) rfl) (fun _ _ => rfl)) (by kernel_rfl)) (pss_consE (t_for (passes_of rfl) rfl (t_enum hf (by simp [free]) (by kernel_rfl) (t_cons (t_fv (by kernel_rfl)) pa_nl rfl) rfl) (t_gt rfl (pgs_consE (t_gn sc_sign_of.nd (by kernel_rfl)) (pgs_consE (t_gn sc_sign_of.nd (by kernel_rfl)) pgs_nilE rfl) rfl) rfl rfl) (pss_consE (t_aug sc_sign_of.nd (by kernel_rfl) (t_blt hf call_lenA ops_lenA (by simp [free]) PyProof.Rows.Boot.«len» (by decide) (by kernel_rfl) (t_cons (pe_lcE (own := [("other", 7)]) rfl sc_sign_of.nd (pi_any (pe_slE (t_v (by kernel_rfl)) (t_op2 op_addD ops_add (t_v (by kernel_rfl)) (t_k rfl)) trivial)) (blkOk_by (by kernel_rfl)) (fun s H C cl fp => (t_gn sc_sign_of.nd (by kernel_rfl))) (fun s H C cl fp => (pts_oneE (t_cmpT (op_ltX (u64 hr)) ops_lt (t_v (by kernel_rfl)) (t_v (by kernel_rfl)) (by kernel_rfl)))) (fun s H C cl fp => (t_v (by kernel_rfl))) (fun _ => rfl) (bd_name 7) (by decide)) pa_nl rfl) rfl)) pss_nilE) (fun _ => rfl)) (pss_consE (ps_retE (t_op2 op_mod ops_mod (t_v (by kernel_rfl)) (t_k rfl))) pss_nilE))))))
def n_is_ring_web : List Str := ["web", "room"]
theorem sc_is_ring_web : FnScope n_is_ring_web ["web"] (defScope s_is_ring_web) := ⟨rfl, rfl, rfl, by decide +kernel, rfl, by decide +kernel, by decide +kernel⟩
def b_is_ring_web : M Fw := (evSeq (evRet (evAnd (evOp opGt (evCons (evOp opIxA (evCons (evVar 0) (evCons (evCon (.int 0)) evNil))) (evCons (evCon (.int 2)) evNil))) (evOp opAll (evCons (evLc (itRng1 (evCons (evOp opIxA (evCons (evVar 0) (evCons (evCon (.int 0)) evNil))) evNil)) (gvName 1) evTrue (evOp opEqA (evCons (evOp opLenA (evCons (evCall F_neighbours_in (evCons (evVar 0) (evCons (evVar 1) evNil))) evNil)) (evCons (evCon (.int 2)) evNil))) [1]) evNil)))) evNext)
def F_is_ring_web : Fn := evFn 1 2 b_is_ring_web
theorem ok_is_ring_web {P : Program} {w : World} {K : PySem.W.Frag} {mg : Str → Option Value} {base : Heap} (T : HD K mg) : Cal P w K mg base 2 1 "is_ring_web" F_is_ring_web := by
  obtain ⟨fd, F⟩ := T.def_is_ring_web.ex
  refine cal_of (k := 1) (N := n_is_ring_web) (ps := ["web"]) (b := b_is_ring_web) F T.def_is_ring_web.g sc_is_ring_web (F.bindsN fun _ _ _ _ _ _ us hl => match us, hl with | [_], _ => rfl) fun cdv A outer s H E hr => ?_
  have lv : Lv (cxOf (L2.CX P w) P w K mg base n_is_ring_web "is_ring_web" (defScope s_is_ring_web) (He.ga K "is_ring_web") cdv A outer s H E) E := passes_call (takes_of rfl rfl rfl rfl) fun _ _ _ _ h => h
  have hf := T.hf
  have c_neighbours_in := ok_neighbours_in (P := P) (w := w) (base := base) T
  exact (pss_consE (ps_retE (pe_andE (t_cmp (op_gtX (u64 hr)) ops_gt (t_ix hr (t_v (by kernel_rfl)) (t_k rfl) (fun _ _ => rfl)) (t_k rfl) (by kernel_rfl)) (pe_one (t_blt hf (cr_all rfl) ops_all (by simp [free]) PyProof.Rows.Boot.«all» (by decide) (by kernel_rfl) (t_cons (pe_lcE (own := [("room", 1)]) rfl sc_is_ring_web.nd (t_rng1 hf (by simp [free]) (by kernel_rfl) (t_cons (t_ix hr (t_v (by kernel_rfl)) (t_k rfl) (fun _ _ => rfl)) pa_nl rfl) rfl) (blkOk_by (by kernel_rfl)) (fun s H C cl fp => (t_gn sc_is_ring_web.nd (by kernel_rfl))) (fun s H C cl fp => pts_nilE) (fun s H C cl fp => (t_cmp (op_eqA (u64 hr)) ops_eqNil (t_blt hf call_lenA ops_lenA (by simp [free]) PyProof.Rows.Boot.«len» (by decide) (by kernel_rfl) (t_cons (t_call (c_neighbours_in.mono (by decide)) hr (by kernel_rfl) lv_no (t_cons (t_v (by kernel_rfl)) (t_cons (t_v (by kernel_rfl)) pa_nl rfl) rfl) rfl) pa_nl rfl) rfl) (t_k rfl) (by kernel_rfl))) (fun _ => rfl) (bd_name 1) (by decide)) pa_nl rfl) rfl)))) pss_nilE)
def n_rooms_round : List Str := ["web", "row", "room"]
theorem sc_rooms_round : FnScope n_rooms_round ["web"] (defScope s_rooms_round) := ⟨rfl, rfl, rfl, by decide +kernel, rfl, by decide +kernel, by decide +kernel⟩
def b_rooms_round : M Fw := (evSeq (evSet 1 (evLst (evCons (evCon (.int 0)) (evCons (evOp opIxA (evCons (evCall F_neighbours_in (evCons (evVar 0) (evCons (evCon (.int 0)) evNil))) (evCons (evCon (.int 0)) evNil))) evNil)))) (evSeq (evWhile (evB (evOp opLt (evCons (evOp opLenA (evCons (evVar 1) evNil)) (evCons (evOp opIxA (evCons (evVar 0) (evCons (evCon (.int 0)) evNil))) evNil)))) (evSeq (evDrop (evMut 1 .lst mAppend false (evCons (evOp opIxA (evCons (evLc (itAny (evCall F_neighbours_in (evCons (evVar 0) (evCons (evOp opIxA (evCons (evVar 1) (evCons (evOp opNeg (evCons (evCon (.int 1)) evNil)) evNil))) evNil)))) (gvName 2) (evB (evOp opNe (evCons (evVar 2) (evCons (evOp opIxA (evCons (evVar 1) (evCons (evOp opNeg (evCons (evCon (.int 2)) evNil)) evNil))) evNil)))) (evVar 2) [2]) (evCons (evCon (.int 0)) evNil))) evNil))) evNext) 300) (evSeq (evRet (evVar 1)) evNext)))
def F_rooms_round : Fn := evFn 1 3 b_rooms_round
theorem ok_rooms_round {P : Program} {w : World} {K : PySem.W.Frag} {mg : Str → Option Value} {base : Heap} (T : HD K mg) : Cal P w K mg base 2 1 "rooms_round" F_rooms_round := by
  obtain ⟨fd, F⟩ := T.def_rooms_round.ex
  refine cal_of (k := 1) (N := n_rooms_round) (ps := ["web"]) (b := b_rooms_round) F T.def_rooms_round.g sc_rooms_round (F.bindsN fun _ _ _ _ _ _ us hl => match us, hl with | [_], _ => rfl) fun cdv A outer s H E hr => ?_
  have lv : Lv (cxOf (L2.CX P w) P w K mg base n_rooms_round "rooms_round" (defScope s_rooms_round) (He.ga K "rooms_round") cdv A outer s H E) E := passes_call (takes_of rfl rfl rfl rfl) fun _ _ _ _ h => h
  have hf := T.hf
  have c_neighbours_in := ok_neighbours_in (P := P) (w := w) (base := base) T
  exact (pss_consE (t_set sc_rooms_round.nd (by kernel_rfl) (pe_lstE (t_cons (t_k rfl) (t_cons (t_ix hr (t_call (c_neighbours_in.mono (by decide)) hr (by kernel_rfl) lv (t_cons (t_v (by kernel_rfl)) (t_cons (t_k rfl) pa_nl rfl) rfl) rfl) (t_k rfl) (fun _ _ => rfl)) pa_nl rfl) rfl)) (by kernel_rfl)) (pss_consE (ps_whileE (passes_of rfl) (t_cmpT (op_ltX (u64 hr)) ops_lt (t_blt hf call_lenA ops_lenA (by simp [free]) PyProof.Rows.Boot.«len» (by decide) (by kernel_rfl) (t_cons (t_v (by kernel_rfl)) pa_nl rfl) rfl) (t_ix hr (t_v (by kernel_rfl)) (t_k rfl) (fun _ _ => rfl)) (by kernel_rfl)) (pss_consE (ps_exprE (t_append (by kernel_rfl) (t_cons (t_ix hr (pe_lcE (own := [("room", 2)]) rfl sc_rooms_round.nd (pi_any (t_call (c_neighbours_in.mono (by decide)) hr (by kernel_rfl) lv (t_cons (t_v (by kernel_rfl)) (t_cons (t_ix hr (t_v (by kernel_rfl)) (pe_negE (t_k rfl)) (fun _ _ => rfl)) pa_nl rfl) rfl) rfl)) (blkOk_by (by kernel_rfl)) (fun s H C cl fp => (t_gn sc_rooms_round.nd (by kernel_rfl))) (fun s H C cl fp => (pts_oneE (t_cmpT (op_neD (u64 hr)) ops_ne (t_v (by kernel_rfl)) (t_ix hr (t_v (by kernel_rfl)) (pe_negE (t_k rfl)) (fun _ _ => rfl)) (by kernel_rfl)))) (fun s H C cl fp => (t_v (by kernel_rfl))) (fun _ => rfl) (bd_name 2) (by decide)) (t_k rfl) (fun _ _ => rfl)) pa_nl rfl) rfl rfl) (by kernel_rfl)) pss_nilE)) (pss_consE (ps_retE (t_v (by kernel_rfl))) pss_nilE)))
def n_round_of_things : List Str := ["web", "stand", "row", "room", "at"]
theorem sc_round_of_things : FnScope n_round_of_things ["web", "stand"] (defScope s_round_of_things) := ⟨rfl, rfl, rfl, by decide +kernel, rfl, by decide +kernel, by decide +kernel⟩
def b_round_of_things : M Fw := (evSeq (evIf (evNotT (evB (evCall F_is_ring_web (evCons (evVar 0) evNil)))) (evSeq (evRet (evCon .none)) evNext) evNext) (evSeq (evSet 2 (evLc (itAny (evCall F_rooms_round (evCons (evVar 0) evNil))) (gvName 3) (evB (evOp opIsNot (evCons (evOp opIxA (evCons (evVar 1) (evCons (evVar 3) evNil))) (evCons (evCon .none) evNil)))) (evOp opIxA (evCons (evVar 1) (evCons (evVar 3) evNil))) [3])) (evSeq (evRet (evOp opTuple (evCons (evOp opMinL (evCons (evLc (itRng1 (evCons (evOp opLenA (evCons (evVar 2) evNil)) evNil)) (gvName 4) evTrue (evOp opAdd (evCons (evSl (evVar 2) (some (evVar 4)) none) (evCons (evSl (evVar 2) none (some (evVar 4))) evNil))) [4]) evNil)) evNil))) evNext)))
def F_round_of_things : Fn := evFn 2 5 b_round_of_things
theorem ok_round_of_things {P : Program} {w : World} {K : PySem.W.Frag} {mg : Str → Option Value} {base : Heap} (T : HD K mg) : Cal P w K mg base 3 2 "round_of_things" F_round_of_things := by
  obtain ⟨fd, F⟩ := T.def_round_of_things.ex
  refine cal_of (k := 2) (N := n_round_of_things) (ps := ["web", "stand"]) (b := b_round_of_things) F T.def_round_of_things.g sc_round_of_things (F.bindsN fun _ _ _ _ _ _ us hl => match us, hl with | [_, _], _ => rfl) fun cdv A outer s H E hr => ?_
  have lv : Lv (cxOf (L2.CX P w) P w K mg base n_round_of_things "round_of_things" (defScope s_round_of_things) (He.ga K "round_of_things") cdv A outer s H E) E := passes_call (takes_of rfl rfl rfl rfl) fun _ _ _ _ h => h
  have hf := T.hf
  have c_is_ring_web := ok_is_ring_web (P := P) (w := w) (base := base) T
  have c_rooms_round := ok_rooms_round (P := P) (w := w) (base := base) T
  exact (pss_consE (ps_ifE (pt_notE (pt_valE (t_call (c_is_ring_web.mono (by decide)) hr (by kernel_rfl) lv (t_cons (t_v (by kernel_rfl)) pa_nl rfl) rfl) (fun _ => rfl))) (pss_consE (ps_retE (t_k rfl)) pss_nilE) pss_nilE) (pss_consE (t_set sc_round_of_things.nd (by kernel_rfl) (pe_lcE (own := [("room", 3)]) rfl sc_round_of_things.nd (pi_any (t_call (c_rooms_round.mono (by decide)) hr (by kernel_rfl) lv (t_cons (t_v (by kernel_rfl)) pa_nl rfl) rfl)) (blkOk_by (by kernel_rfl)) (fun s H C cl fp => (t_gn sc_round_of_things.nd (by kernel_rfl))) (fun s H C cl fp => (pts_oneE (t_cmpT op_isNotD ops_isnot (t_ix hr (t_v (by kernel_rfl)) (t_v (by kernel_rfl)) (fun _ _ => rfl)) (t_k rfl) (by kernel_rfl)))) (fun s H C cl fp => (t_ix hr (t_v (by kernel_rfl)) (t_v (by kernel_rfl)) (fun _ _ => rfl))) (fun _ => rfl) (bd_name 3) (by decide)) (by kernel_rfl)) (pss_consE (ps_retE (t_bty hf call_tuple_of ops_tuple (by simp [free]) PyProof.Rows.Boot.«tuple» (by decide) (by kernel_rfl) (t_cons (t_blt hf (cr_min rfl) ops_minL (by simp [free]) PyProof.Rows.Boot.«min» (by decide) (by kernel_rfl) (t_cons (pe_lcE (own := [("at", 4)]) rfl sc_round_of_things.nd (t_rng1 hf (by simp [free]) (by kernel_rfl) (t_cons (t_blt hf call_lenA ops_lenA (by simp [free]) PyProof.Rows.Boot.«len» (by decide) (by kernel_rfl) (t_cons (t_v (by kernel_rfl)) pa_nl rfl) rfl) pa_nl rfl) rfl) (blkOk_by (by kernel_rfl)) (fun s H C cl fp => (t_gn sc_round_of_things.nd (by kernel_rfl))) (fun s H C cl fp => pts_nilE) (fun s H C cl fp => (t_op2 op_addD ops_add (pe_slE (t_v (by kernel_rfl)) (t_v (by kernel_rfl)) trivial) (pe_slE (t_v (by kernel_rfl)) trivial (t_v (by kernel_rfl))))) (fun _ => rfl) (bd_name 4) (by decide)) pa_nl rfl) rfl) pa_nl rfl) rfl)) pss_nilE)))
def n_paper_of_slides : List Str := ["web", "stand", "other", "found"]
theorem sc_paper_of_slides : FnScope n_paper_of_slides ["web", "stand", "other"] (defScope s_paper_of_slides) := ⟨rfl, rfl, rfl, by decide +kernel, rfl, by decide +kernel, by decide +kernel⟩
def b_paper_of_slides : M Fw := (evSeq (evSet 3 (evCall F_stands_from (evCons (evVar 0) (evCons (evVar 1) evNil)))) (evSeq (evIf (evB (evOp opInA (evCons (evVar 2) (evCons (evVar 3) evNil)))) (evSeq (evRet (evTup (evCons (evCon (.str "slides")) (evCons (evOp opTuple (evCons (evCall F_rooms_to (evCons (evVar 3) (evCons (evVar 2) evNil))) evNil)) evNil)))) evNext) evNext) (evSeq (evIf (evB (evCall F_is_ring_web (evCons (evVar 0) evNil))) (evSeq (evRet (evTup (evCons (evCon (.str "rounds")) (evCons (evCall F_round_of_things (evCons (evVar 0) (evCons (evVar 1) evNil))) (evCons (evCall F_round_of_things (evCons (evVar 0) (evCons (evVar 2) evNil))) evNil))))) evNext) evNext) (evSeq (evRet (evTup (evCons (evCon (.str "signs")) (evCons (evCall F_sign_of (evCons (evVar 0) (evCons (evVar 1) evNil))) (evCons (evCall F_sign_of (evCons (evVar 0) (evCons (evVar 2) evNil))) evNil))))) evNext))))
def F_paper_of_slides : Fn := evFn 3 4 b_paper_of_slides
theorem ok_paper_of_slides {P : Program} {w : World} {K : PySem.W.Frag} {mg : Str → Option Value} {base : Heap} (T : HD K mg) : Cal P w K mg base 4 3 "paper_of_slides" F_paper_of_slides := by
  obtain ⟨fd, F⟩ := T.def_paper_of_slides.ex
  refine cal_of (k := 3) (N := n_paper_of_slides) (ps := ["web", "stand", "other"]) (b := b_paper_of_slides) F T.def_paper_of_slides.g sc_paper_of_slides (F.bindsN fun _ _ _ _ _ _ us hl => match us, hl with | [_, _, _], _ => rfl) fun cdv A outer s H E hr => ?_
  have lv : Lv (cxOf (L2.CX P w) P w K mg base n_paper_of_slides "paper_of_slides" (defScope s_paper_of_slides) (He.ga K "paper_of_slides") cdv A outer s H E) E := passes_call (takes_of rfl rfl rfl rfl) fun _ _ _ _ h => h
  have hf := T.hf
  have c_stands_from := ok_stands_from (P := P) (w := w) (base := base) T
  have c_is_ring_web := ok_is_ring_web (P := P) (w := w) (base := base) T
  have c_sign_of := ok_sign_of (P := P) (w := w) (base := base) T
  have c_round_of_things := ok_round_of_things (P := P) (w := w) (base := base) T
  have c_rooms_to := ok_rooms_to (P := P) (w := w) (base := base) T
  have k_SLIDES := T.k_SLIDES
  have k_ROUNDS := T.k_ROUNDS
  have k_SIGNS := T.k_SIGNS
  exact (pss_consE (t_set sc_paper_of_slides.nd (by kernel_rfl) (t_call (c_stands_from.mono (by decide)) hr (by kernel_rfl) lv (t_cons (t_v (by kernel_rfl)) (t_cons (t_v (by kernel_rfl)) pa_nl rfl) rfl) rfl) (by kernel_rfl)) (pss_consE (ps_ifE (t_cmpT (op_inA (u66 hr)) ops_inA (t_v (by kernel_rfl)) (t_v (by kernel_rfl)) (by kernel_rfl)) (pss_consE (ps_retE (pe_tupE (t_cons (t_kon k_SLIDES (by kernel_rfl)) (t_cons (t_bty hf call_tuple_of ops_tuple (by simp [free]) PyProof.Rows.Boot.«tuple» (by decide) (by kernel_rfl) (t_cons (t_call (c_rooms_to.mono (by decide)) hr (by kernel_rfl) lv (t_cons (t_v (by kernel_rfl)) (t_cons (t_v (by kernel_rfl)) pa_nl rfl) rfl) rfl) pa_nl rfl) rfl) pa_nl rfl) rfl))) pss_nilE) pss_nilE) (pss_consE (ps_ifE (pt_valE (t_call (c_is_ring_web.mono (by decide)) hr (by kernel_rfl) lv (t_cons (t_v (by kernel_rfl)) pa_nl rfl) rfl) (fun _ => rfl)) (pss_consE (ps_retE (pe_tupE (t_cons (t_kon k_ROUNDS (by kernel_rfl)) (t_cons (t_call (c_round_of_things.mono (by decide)) hr (by kernel_rfl) lv (t_cons (t_v (by kernel_rfl)) (t_cons (t_v (by kernel_rfl)) pa_nl rfl) rfl) rfl) (t_cons (t_call (c_round_of_things.mono (by decide)) hr (by kernel_rfl) lv (t_cons (t_v (by kernel_rfl)) (t_cons (t_v (by kernel_rfl)) pa_nl rfl) rfl) rfl) pa_nl rfl) rfl) rfl))) pss_nilE) pss_nilE) (pss_consE (ps_retE (pe_tupE (t_cons (t_kon k_SIGNS (by kernel_rfl)) (t_cons (t_call (c_sign_of.mono (by decide)) hr (by kernel_rfl) lv (t_cons (t_v (by kernel_rfl)) (t_cons (t_v (by kernel_rfl)) pa_nl rfl) rfl) rfl) (t_cons (t_call (c_sign_of.mono (by decide)) hr (by kernel_rfl) lv (t_cons (t_v (by kernel_rfl)) (t_cons (t_v (by kernel_rfl)) pa_nl rfl) rfl) rfl) pa_nl rfl) rfl) rfl))) pss_nilE))))
def n_is_stand_told : List Str := ["web", "value", "things", "thing"]
theorem sc_is_stand_told : FnScope n_is_stand_told ["web", "value"] (defScope s_is_stand_told) := ⟨rfl, rfl, rfl, by decide +kernel, rfl, by decide +kernel, by decide +kernel⟩
def b_is_stand_told : M Fw := (evSeq (evIf (evOrT (evNotT (evB (evOp (opIsi .tuple) (evCons (evVar 1) evNil)))) (evB (evOp opNe (evCons (evOp opLenA (evCons (evVar 1) evNil)) (evCons (evOp opIxA (evCons (evVar 0) (evCons (evCon (.int 0)) evNil))) evNil))))) (evSeq (evRet (evCon (.bool false))) evNext) evNext) (evSeq (evSet 2 (evLc (itAny (evFzv 1)) (gvName 3) (evB (evOp opIsNot (evCons (evVar 3) (evCons (evCon .none) evNil)))) (evVar 3) [3])) (evSeq (evIf (evOrT (evB (evOp opNe (evCons (evOp opLenA (evCons (evVar 2) evNil)) (evCons (evOp opSub (evCons (evOp opIxA (evCons (evVar 0) (evCons (evCon (.int 0)) evNil))) (evCons (evCon (.int 1)) evNil))) evNil)))) (evNotT (evB (evOp opAll (evCons (evLc (itAny (evFzv 2)) (gvName 3) evTrue (evCall F_is_number_from (evCons (evVar 3) (evCons (evCon (.int 1)) (evCons (evOp opSub (evCons (evOp opIxA (evCons (evVar 0) (evCons (evCon (.int 0)) evNil))) (evCons (evCon (.int 1)) evNil))) evNil)))) [3]) evNil))))) (evSeq (evRet (evCon (.bool false))) evNext) evNext) (evSeq (evRet (evOp opEqA (evCons (evOp opSortedA (evCons (evVar 2) evNil)) (evCons (evOp opLR (evCons (evCon (.int 1)) (evCons (evOp opIxA (evCons (evVar 0) (evCons (evCon (.int 0)) evNil))) evNil))) evNil)))) evNext))))
def F_is_stand_told : Fn := evFn 2 4 b_is_stand_told
theorem ok_is_stand_told {P : Program} {w : World} {K : PySem.W.Frag} {mg : Str → Option Value} {base : Heap} (T : HD K mg) : Cal P w K mg base 2 2 "is_stand_told" F_is_stand_told := by
  obtain ⟨fd, F⟩ := T.def_is_stand_told.ex
  refine cal_of (k := 1) (N := n_is_stand_told) (ps := ["web", "value"]) (b := b_is_stand_told) F T.def_is_stand_told.g sc_is_stand_told (F.bindsN fun _ _ _ _ _ _ us hl => match us, hl with | [_, _], _ => rfl) fun cdv A outer s H E hr => ?_
  have lv : Lv (cxOf (L2.CX P w) P w K mg base n_is_stand_told "is_stand_told" (defScope s_is_stand_told) (He.ga K "is_stand_told") cdv A outer s H E) E := passes_call (takes_of rfl rfl rfl rfl) fun _ _ _ _ h => h
  have hf := T.hf
  have c_is_number_from := ok_is_number_from (P := P) (w := w) (base := base) T
  exact (pss_consE (ps_ifE (PW.pt (pw_orE (pt_notE (pt_valE (t_isi hf (by simp [free]) (by simp [free]) PyProof.Rows.Boot.«tuple» (by decide) (by kernel_rfl) (by kernel_rfl) (t_v (by kernel_rfl)) rfl) (fun _ => rfl))) (pw_or1 (t_cmpT (op_neD (u64 hr)) ops_ne (t_blt hf call_lenA ops_lenA (by simp [free]) PyProof.Rows.Boot.«len» (by decide) (by kernel_rfl) (t_cons (t_v (by kernel_rfl)) pa_nl rfl) rfl) (t_ix hr (t_v (by kernel_rfl)) (t_k rfl) (fun _ _ => rfl)) (by kernel_rfl))))) (pss_consE (ps_retE (t_k rfl)) pss_nilE) pss_nilE) (pss_consE (t_setLc (own := [("thing", 3)]) rfl sc_is_stand_told.nd (by kernel_rfl) (by kernel_rfl) (pi_any (t_fv (by kernel_rfl))) (blkOk_by (by kernel_rfl)) (fun s H C cl fp => (t_gn sc_is_stand_told.nd (by kernel_rfl))) (fun s H C cl fp => (pts_oneE (t_cmpT op_isNotD ops_isnot (t_v (by kernel_rfl)) (t_k rfl) (by kernel_rfl)))) (fun s H C cl fp => (t_v (by kernel_rfl))) (fun _ => rfl) (bd_name 3) (by decide)) (pss_consE (ps_ifE (PW.pt (pw_orE (t_cmpT (op_neD (u64 hr)) ops_ne (t_blt hf call_lenA ops_lenA (by simp [free]) PyProof.Rows.Boot.«len» (by decide) (by kernel_rfl) (t_cons (t_v (by kernel_rfl)) pa_nl rfl) rfl) (t_op2 op_sub ops_sub (t_ix hr (t_v (by kernel_rfl)) (t_k rfl) (fun _ _ => rfl)) (t_k rfl)) (by kernel_rfl)) (pw_or1 (pt_notE (pt_valE (t_blt hf (cr_all rfl) ops_all (by simp [free]) PyProof.Rows.Boot.«all» (by decide) (by kernel_rfl) (t_cons (pe_lcE (own := [("thing", 3)]) rfl sc_is_stand_told.nd (pi_any (t_fv (by kernel_rfl))) (blkOk_by (by kernel_rfl)) (fun s H C cl fp => (t_gn sc_is_stand_told.nd (by kernel_rfl))) (fun s H C cl fp => pts_nilE) (fun s H C cl fp => (t_call (c_is_number_from.mono (by decide)) hr (by kernel_rfl) lv_no (t_cons (t_v (by kernel_rfl)) (t_cons (t_k rfl) (t_cons (t_op2 op_sub ops_sub (t_ix hr (t_v (by kernel_rfl)) (t_k rfl) (fun _ _ => rfl)) (t_k rfl)) pa_nl rfl) rfl) rfl) rfl)) (fun _ => rfl) (bd_name 3) (by decide)) pa_nl rfl) rfl) (fun _ => rfl)))))) (pss_consE (ps_retE (t_k rfl)) pss_nilE) pss_nilE) (pss_consE (ps_retE (t_cmp (op_eqA (u64 hr)) ops_eqNil (t_blt hf (call_sortedA rfl (u64 hr)) ops_sortedA (by simp [free]) PyProof.Rows.Boot.«sorted» (by decide) (by kernel_rfl) (t_cons (t_v (by kernel_rfl)) pa_nl rfl) rfl) (t_listR2 hf (by simp [free]) (by simp [free]) rfl (by kernel_rfl) (by kernel_rfl) (t_k rfl) (t_ix hr (t_v (by kernel_rfl)) (t_k rfl) (fun _ _ => rfl)) rfl rfl) (by kernel_rfl))) pss_nilE))))
def n_is_slide_now : List Str := ["web", "stand", "room"]
theorem sc_is_slide_now : FnScope n_is_slide_now ["web", "stand", "room"] (defScope s_is_slide_now) := ⟨rfl, rfl, rfl, by decide +kernel, rfl, by decide +kernel, by decide +kernel⟩
def b_is_slide_now : M Fw := (evSeq (evRet (evAnd (evCall F_is_number_from (evCons (evVar 2) (evCons (evCon (.int 0)) (evCons (evOp opSub (evCons (evOp opIxA (evCons (evVar 0) (evCons (evCon (.int 0)) evNil))) (evCons (evCon (.int 1)) evNil))) evNil)))) (evOp opInA (evCons (evVar 2) (evCons (evCall F_neighbours_in (evCons (evVar 0) (evCons (evCall F_empty_room (evCons (evVar 1) evNil)) evNil))) evNil))))) evNext)
def F_is_slide_now : Fn := evFn 3 3 b_is_slide_now
theorem ok_is_slide_now {P : Program} {w : World} {K : PySem.W.Frag} {mg : Str → Option Value} {base : Heap} (T : HD K mg) : Cal P w K mg base 2 3 "is_slide_now" F_is_slide_now := by
  obtain ⟨fd, F⟩ := T.def_is_slide_now.ex
  refine cal_of (k := 1) (N := n_is_slide_now) (ps := ["web", "stand", "room"]) (b := b_is_slide_now) F T.def_is_slide_now.g sc_is_slide_now (F.bindsN fun _ _ _ _ _ _ us hl => match us, hl with | [_, _, _], _ => rfl) fun cdv A outer s H E hr => ?_
  have lv : Lv (cxOf (L2.CX P w) P w K mg base n_is_slide_now "is_slide_now" (defScope s_is_slide_now) (He.ga K "is_slide_now") cdv A outer s H E) E := passes_call (takes_of rfl rfl rfl rfl) fun _ _ _ _ h => h
  have hf := T.hf
  have c_is_number_from := ok_is_number_from (P := P) (w := w) (base := base) T
  have c_neighbours_in := ok_neighbours_in (P := P) (w := w) (base := base) T
  have c_empty_room := ok_empty_room (P := P) (w := w) (base := base) T
  exact (pss_consE (ps_retE (pe_andE (t_call (c_is_number_from.mono (by decide)) hr (by kernel_rfl) lv (t_cons (t_v (by kernel_rfl)) (t_cons (t_k rfl) (t_cons (t_op2 op_sub ops_sub (t_ix hr (t_v (by kernel_rfl)) (t_k rfl) (fun _ _ => rfl)) (t_k rfl)) pa_nl rfl) rfl) rfl) rfl) (pe_one (t_cmp (op_inA (u66 hr)) ops_inA (t_v (by kernel_rfl)) (t_call (c_neighbours_in.mono (by decide)) hr (by kernel_rfl) lv (t_cons (t_v (by kernel_rfl)) (t_cons (t_call (c_empty_room.mono (by decide)) hr (by kernel_rfl) lv (t_cons (t_v (by kernel_rfl)) pa_nl rfl) rfl) pa_nl rfl) rfl) rfl) (by kernel_rfl))))) pss_nilE)
def n_is_led_by : List Str := ["web", "stand", "other", "rooms", "room"]
theorem sc_is_led_by : FnScope n_is_led_by ["web", "stand", "other", "rooms"] (defScope s_is_led_by) := ⟨rfl, rfl, rfl, by decide +kernel, rfl, by decide +kernel, by decide +kernel⟩
def b_is_led_by : M Fw := (evSeq (evIf (evNotT (evB (evOp (opIsi .tuple) (evCons (evVar 3) evNil)))) (evSeq (evRet (evCon (.bool false))) evNext) evNext) (evSeq (evFor (itAny (evFzv 3)) (gvName 4) (evSeq (evIf (evNotT (evB (evCall F_is_slide_now (evCons (evVar 0) (evCons (evVar 1) (evCons (evVar 4) evNil)))))) (evSeq (evRet (evCon (.bool false))) evNext) evNext) (evSeq (evSet 1 (evCall F_slid_into (evCons (evVar 1) (evCons (evVar 4) evNil)))) evNext))) (evSeq (evRet (evOp opEqA (evCons (evVar 1) (evCons (evVar 2) evNil)))) evNext)))
def F_is_led_by : Fn := evFn 4 5 b_is_led_by
theorem ok_is_led_by {P : Program} {w : World} {K : PySem.W.Frag} {mg : Str → Option Value} {base : Heap} (T : HD K mg) : Cal P w K mg base 3 4 "is_led_by" F_is_led_by := by
  obtain ⟨fd, F⟩ := T.def_is_led_by.ex
  refine cal_of (k := 2) (N := n_is_led_by) (ps := ["web", "stand", "other", "rooms"]) (b := b_is_led_by) F T.def_is_led_by.g sc_is_led_by (F.bindsN fun _ _ _ _ _ _ us hl => match us, hl with | [_, _, _, _], _ => rfl) fun cdv A outer s H E hr => ?_
  have lv : Lv (cxOf (L2.CX P w) P w K mg base n_is_led_by "is_led_by" (defScope s_is_led_by) (He.ga K "is_led_by") cdv A outer s H E) E := passes_call (takes_of rfl rfl rfl rfl) fun _ _ _ _ h => h
  have hf := T.hf
  have c_slid_into := ok_slid_into (P := P) (w := w) (base := base) T
  have c_is_slide_now := ok_is_slide_now (P := P) (w := w) (base := base) T
  exact (pss_consE (ps_ifE (pt_notE (pt_valE (t_isi hf (by simp [free]) (by simp [free]) PyProof.Rows.Boot.«tuple» (by decide) (by kernel_rfl) (by kernel_rfl) (t_v (by kernel_rfl)) rfl) (fun _ => rfl))) (pss_consE (ps_retE (t_k rfl)) pss_nilE) pss_nilE) (pss_consE (t_for (passes_of rfl) rfl (pi_any (t_fv (by kernel_rfl))) (t_gn sc_is_led_by.nd (by kernel_rfl)) (pss_consE (ps_ifE (pt_notE (pt_valE (t_call (c_is_slide_now.mono (by decide)) hr (by kernel_rfl) lv (t_cons (t_v (by kernel_rfl)) (t_cons (t_v (by kernel_rfl)) (t_cons (t_v (by kernel_rfl)) pa_nl rfl) rfl) rfl) rfl) (fun _ => rfl))) (pss_consE (ps_retE (t_k rfl)) pss_nilE) pss_nilE) (pss_consE (t_set sc_is_led_by.nd (by kernel_rfl) (t_call (c_slid_into.mono (by decide)) hr (by kernel_rfl) lv (t_cons (t_v (by kernel_rfl)) (t_cons (t_v (by kernel_rfl)) pa_nl rfl) rfl) rfl) (by kernel_rfl)) pss_nilE)) (fun _ => rfl)) (pss_consE (ps_retE (t_cmp (op_eqA (u64 hr)) ops_eqNil (t_v (by kernel_rfl)) (t_v (by kernel_rfl)) (by kernel_rfl))) pss_nilE)))
def n_are_things : List Str := ["web", "value", "thing"]
theorem sc_are_things : FnScope n_are_things ["web", "value"] (defScope s_are_things) := ⟨rfl, rfl, rfl, by decide +kernel, rfl, by decide +kernel, by decide +kernel⟩
def b_are_things : M Fw := (evSeq (evIf (evOrT (evNotT (evB (evOp (opIsi .tuple) (evCons (evVar 1) evNil)))) (evNotT (evB (evOp opAll (evCons (evLc (itAny (evFzv 1)) (gvName 2) evTrue (evCall F_is_number_from (evCons (evVar 2) (evCons (evCon (.int 1)) (evCons (evOp opSub (evCons (evOp opIxA (evCons (evVar 0) (evCons (evCon (.int 0)) evNil))) (evCons (evCon (.int 1)) evNil))) evNil)))) [2]) evNil))))) (evSeq (evRet (evCon (.bool false))) evNext) evNext) (evSeq (evRet (evOp opEqA (evCons (evOp opSortedA (evCons (evVar 1) evNil)) (evCons (evOp opLR (evCons (evCon (.int 1)) (evCons (evOp opIxA (evCons (evVar 0) (evCons (evCon (.int 0)) evNil))) evNil))) evNil)))) evNext))
def F_are_things : Fn := evFn 2 3 b_are_things
theorem ok_are_things {P : Program} {w : World} {K : PySem.W.Frag} {mg : Str → Option Value} {base : Heap} (T : HD K mg) : Cal P w K mg base 2 2 "are_things" F_are_things := by
  obtain ⟨fd, F⟩ := T.def_are_things.ex
  refine cal_of (k := 1) (N := n_are_things) (ps := ["web", "value"]) (b := b_are_things) F T.def_are_things.g sc_are_things (F.bindsN fun _ _ _ _ _ _ us hl => match us, hl with | [_, _], _ => rfl) fun cdv A outer s H E hr => ?_
  have lv : Lv (cxOf (L2.CX P w) P w K mg base n_are_things "are_things" (defScope s_are_things) (He.ga K "are_things") cdv A outer s H E) E := passes_call (takes_of rfl rfl rfl rfl) fun _ _ _ _ h => h
  have hf := T.hf
  have c_is_number_from := ok_is_number_from (P := P) (w := w) (base := base) T
  exact (pss_consE (ps_ifE (PW.pt (pw_orE (pt_notE (pt_valE (t_isi hf (by simp [free]) (by simp [free]) PyProof.Rows.Boot.«tuple» (by decide) (by kernel_rfl) (by kernel_rfl) (t_v (by kernel_rfl)) rfl) (fun _ => rfl))) (pw_or1 (pt_notE (pt_valE (t_blt hf (cr_all rfl) ops_all (by simp [free]) PyProof.Rows.Boot.«all» (by decide) (by kernel_rfl) (t_cons (pe_lcE (own := [("thing", 2)]) rfl sc_are_things.nd (pi_any (t_fv (by kernel_rfl))) (blkOk_by (by kernel_rfl)) (fun s H C cl fp => (t_gn sc_are_things.nd (by kernel_rfl))) (fun s H C cl fp => pts_nilE) (fun s H C cl fp => (t_call (c_is_number_from.mono (by decide)) hr (by kernel_rfl) lv_no (t_cons (t_v (by kernel_rfl)) (t_cons (t_k rfl) (t_cons (t_op2 op_sub ops_sub (t_ix hr (t_v (by kernel_rfl)) (t_k rfl) (fun _ _ => rfl)) (t_k rfl)) pa_nl rfl) rfl) rfl) rfl)) (fun _ => rfl) (bd_name 2) (by decide)) pa_nl rfl) rfl) (fun _ => rfl)))))) (pss_consE (ps_retE (t_k rfl)) pss_nilE) pss_nilE) (pss_consE (ps_retE (t_cmp (op_eqA (u64 hr)) ops_eqNil (t_blt hf (call_sortedA rfl (u64 hr)) ops_sortedA (by simp [free]) PyProof.Rows.Boot.«sorted» (by decide) (by kernel_rfl) (t_cons (t_v (by kernel_rfl)) pa_nl rfl) rfl) (t_listR2 hf (by simp [free]) (by simp [free]) rfl (by kernel_rfl) (by kernel_rfl) (t_k rfl) (t_ix hr (t_v (by kernel_rfl)) (t_k rfl) (fun _ _ => rfl)) rfl rfl) (by kernel_rfl))) pss_nilE))
def n_shows_unlike : List Str := ["web", "stand", "other", "value", "word", "one", "far"]
theorem sc_shows_unlike : FnScope n_shows_unlike ["web", "stand", "other", "value"] (defScope s_shows_unlike) := ⟨rfl, rfl, rfl, by decide +kernel, rfl, by decide +kernel, by decide +kernel⟩
def b_shows_unlike : M Fw := (evSeq (evBind (evVar 3) (gvTup 3 (gvCons (gvName 4) (gvCons (gvName 5) (gvCons (gvName 6) gvNil))))) (evSeq (evIf (evB (evOp opEqA (evCons (evVar 4) (evCons (evCon (.str "rounds")) evNil)))) (evSeq (evIf (evOrT (evNotT (evB (evCall F_is_ring_web (evCons (evVar 0) evNil)))) (evOrT (evNotT (evB (evCall F_are_things (evCons (evVar 0) (evCons (evVar 5) evNil))))) (evOrT (evNotT (evB (evCall F_are_things (evCons (evVar 0) (evCons (evVar 6) evNil))))) (evB (evOp opEqA (evCons (evVar 5) (evCons (evVar 6) evNil))))))) (evSeq (evRet (evCon (.bool false))) evNext) evNext) (evSeq (evRet (evAnd (evOp opEqA (evCons (evVar 5) (evCons (evCall F_round_of_things (evCons (evVar 0) (evCons (evVar 1) evNil))) evNil))) (evOp opEqA (evCons (evVar 6) (evCons (evCall F_round_of_things (evCons (evVar 0) (evCons (evVar 2) evNil))) evNil))))) evNext)) evNext) (evSeq (evIf (evOrT (evB (evOp opNe (evCons (evVar 4) (evCons (evCon (.str "signs")) evNil)))) (evOrT (evNotT (evB (evCall F_is_number_from (evCons (evVar 5) (evCons (evCon (.int 0)) (evCons (evCon (.int 1)) evNil)))))) (evOrT (evNotT (evB (evCall F_is_number_from (evCons (evVar 6) (evCons (evCon (.int 0)) (evCons (evCon (.int 1)) evNil)))))) (evB (evOp opEqA (evCons (evVar 5) (evCons (evVar 6) evNil))))))) (evSeq (evRet (evCon (.bool false))) evNext) evNext) (evSeq (evRet (evAnd (evOp opEqA (evCons (evVar 5) (evCons (evCall F_sign_of (evCons (evVar 0) (evCons (evVar 1) evNil))) evNil))) (evOp opEqA (evCons (evVar 6) (evCons (evCall F_sign_of (evCons (evVar 0) (evCons (evVar 2) evNil))) evNil))))) evNext))))
def F_shows_unlike : Fn := evFn 4 7 b_shows_unlike
theorem ok_shows_unlike {P : Program} {w : World} {K : PySem.W.Frag} {mg : Str → Option Value} {base : Heap} (T : HD K mg) : Cal P w K mg base 4 4 "shows_unlike" F_shows_unlike := by
  obtain ⟨fd, F⟩ := T.def_shows_unlike.ex
  refine cal_of (k := 3) (N := n_shows_unlike) (ps := ["web", "stand", "other", "value"]) (b := b_shows_unlike) F T.def_shows_unlike.g sc_shows_unlike (F.bindsN fun _ _ _ _ _ _ us hl => match us, hl with | [_, _, _, _], _ => rfl) fun cdv A outer s H E hr => ?_
  have lv : Lv (cxOf (L2.CX P w) P w K mg base n_shows_unlike "shows_unlike" (defScope s_shows_unlike) (He.ga K "shows_unlike") cdv A outer s H E) E := passes_call (takes_of rfl rfl rfl rfl) fun _ _ _ _ h => h
  have hf := T.hf
  have c_is_number_from := ok_is_number_from (P := P) (w := w) (base := base) T
  have c_sign_of := ok_sign_of (P := P) (w := w) (base := base) T
  have c_is_ring_web := ok_is_ring_web (P := P) (w := w) (base := base) T
  have c_are_things := ok_are_things (P := P) (w := w) (base := base) T
  have c_round_of_things := ok_round_of_things (P := P) (w := w) (base := base) T
  have k_ROUNDS := T.k_ROUNDS
  have k_SIGNS := T.k_SIGNS
  exact (pss_consE (ps_bindE (t_v (by kernel_rfl)) (t_gt rfl (pgs_consE (t_gn sc_shows_unlike.nd (by kernel_rfl)) (pgs_consE (t_gn sc_shows_unlike.nd (by kernel_rfl)) (pgs_consE (t_gn sc_shows_unlike.nd (by kernel_rfl)) pgs_nilE rfl) rfl) rfl) rfl rfl) (by kernel_rfl) (by kernel_rfl) rfl) (pss_consE (ps_ifE (t_cmpT (op_eqA (u64 hr)) ops_eqNil (t_v (by kernel_rfl)) (t_kon k_ROUNDS (by kernel_rfl)) (by kernel_rfl)) (pss_consE (ps_ifE (PW.pt (pw_orE (pt_notE (pt_valE (t_call (c_is_ring_web.mono (by decide)) hr (by kernel_rfl) lv (t_cons (t_v (by kernel_rfl)) pa_nl rfl) rfl) (fun _ => rfl))) (pw_orE (pt_notE (pt_valE (t_call (c_are_things.mono (by decide)) hr (by kernel_rfl) lv (t_cons (t_v (by kernel_rfl)) (t_cons (t_v (by kernel_rfl)) pa_nl rfl) rfl) rfl) (fun _ => rfl))) (pw_orE (pt_notE (pt_valE (t_call (c_are_things.mono (by decide)) hr (by kernel_rfl) lv (t_cons (t_v (by kernel_rfl)) (t_cons (t_v (by kernel_rfl)) pa_nl rfl) rfl) rfl) (fun _ => rfl))) (pw_or1 (t_cmpT (op_eqA (u64 hr)) ops_eqNil (t_v (by kernel_rfl)) (t_v (by kernel_rfl)) (by kernel_rfl))))))) (pss_consE (ps_retE (t_k rfl)) pss_nilE) pss_nilE) (pss_consE (ps_retE (pe_andE (t_cmp (op_eqA (u64 hr)) ops_eqNil (t_v (by kernel_rfl)) (t_call (c_round_of_things.mono (by decide)) hr (by kernel_rfl) lv (t_cons (t_v (by kernel_rfl)) (t_cons (t_v (by kernel_rfl)) pa_nl rfl) rfl) rfl) (by kernel_rfl)) (pe_one (t_cmp (op_eqA (u64 hr)) ops_eqNil (t_v (by kernel_rfl)) (t_call (c_round_of_things.mono (by decide)) hr (by kernel_rfl) lv (t_cons (t_v (by kernel_rfl)) (t_cons (t_v (by kernel_rfl)) pa_nl rfl) rfl) rfl) (by kernel_rfl))))) pss_nilE)) pss_nilE) (pss_consE (ps_ifE (PW.pt (pw_orE (t_cmpT (op_neD (u64 hr)) ops_ne (t_v (by kernel_rfl)) (t_kon k_SIGNS (by kernel_rfl)) (by kernel_rfl)) (pw_orE (pt_notE (pt_valE (t_call (c_is_number_from.mono (by decide)) hr (by kernel_rfl) lv (t_cons (t_v (by kernel_rfl)) (t_cons (t_k rfl) (t_cons (t_k rfl) pa_nl rfl) rfl) rfl) rfl) (fun _ => rfl))) (pw_orE (pt_notE (pt_valE (t_call (c_is_number_from.mono (by decide)) hr (by kernel_rfl) lv (t_cons (t_v (by kernel_rfl)) (t_cons (t_k rfl) (t_cons (t_k rfl) pa_nl rfl) rfl) rfl) rfl) (fun _ => rfl))) (pw_or1 (t_cmpT (op_eqA (u64 hr)) ops_eqNil (t_v (by kernel_rfl)) (t_v (by kernel_rfl)) (by kernel_rfl))))))) (pss_consE (ps_retE (t_k rfl)) pss_nilE) pss_nilE) (pss_consE (ps_retE (pe_andE (t_cmp (op_eqA (u64 hr)) ops_eqNil (t_v (by kernel_rfl)) (t_call (c_sign_of.mono (by decide)) hr (by kernel_rfl) lv (t_cons (t_v (by kernel_rfl)) (t_cons (t_v (by kernel_rfl)) pa_nl rfl) rfl) rfl) (by kernel_rfl)) (pe_one (t_cmp (op_eqA (u64 hr)) ops_eqNil (t_v (by kernel_rfl)) (t_call (c_sign_of.mono (by decide)) hr (by kernel_rfl) lv (t_cons (t_v (by kernel_rfl)) (t_cons (t_v (by kernel_rfl)) pa_nl rfl) rfl) rfl) (by kernel_rfl))))) pss_nilE))))
def n_ask_whole : List Str := ["web"]
theorem sc_ask_whole : FnScope n_ask_whole ["web"] (defScope s_ask_whole) := ⟨rfl, rfl, rfl, by decide +kernel, rfl, by decide +kernel, by decide +kernel⟩
def b_ask_whole : M Fw := (evSeq (evDrop (evCall F_ask_web (evCons (evVar 0) evNil))) (evSeq (evIf (evNotT (evB (evCall F_is_whole_web (evCons (evVar 0) evNil)))) (evSeq (evRaise "NoHouse") evNext) evNext) (evSeq (evIf (evB (evOp opGt (evCons (evOp opIxA (evCons (evVar 0) (evCons (evCon (.int 0)) evNil))) (evCons (evCon (.int 6)) evNil)))) (evSeq (evRaise "TooWide") evNext) evNext) evNext)))
def F_ask_whole : Fn := evFn 1 1 b_ask_whole
theorem ok_ask_whole {P : Program} {w : World} {K : PySem.W.Frag} {mg : Str → Option Value} {base : Heap} (T : HD K mg) : Cal P w K mg base 5 1 "ask_whole" F_ask_whole := by
  obtain ⟨fd, F⟩ := T.def_ask_whole.ex
  refine cal_of (k := 4) (N := n_ask_whole) (ps := ["web"]) (b := b_ask_whole) F T.def_ask_whole.g sc_ask_whole (F.bindsN fun _ _ _ _ _ _ us hl => match us, hl with | [_], _ => rfl) fun cdv A outer s H E hr => ?_
  have lv : Lv (cxOf (L2.CX P w) P w K mg base n_ask_whole "ask_whole" (defScope s_ask_whole) (He.ga K "ask_whole") cdv A outer s H E) E := passes_call (takes_of rfl rfl rfl rfl) fun _ _ _ _ h => h
  have hf := T.hf
  have c_ask_web := ok_ask_web (P := P) (w := w) (base := base) T
  have c_is_whole_web := ok_is_whole_web (P := P) (w := w) (base := base) T
  have k_MOST_SLID := T.k_MOST_SLID
  exact (pss_consE (ps_exprE (t_call (c_ask_web.mono (by decide)) hr (by kernel_rfl) lv (t_cons (t_v (by kernel_rfl)) pa_nl rfl) rfl) (by kernel_rfl)) (pss_consE (ps_ifE (pt_notE (pt_valE (t_call (c_is_whole_web.mono (by decide)) hr (by kernel_rfl) lv (t_cons (t_v (by kernel_rfl)) pa_nl rfl) rfl) (fun _ => rfl))) (pss_consE (t_raise PySem.F.excBase_ValueError T.x_NoHouse rfl (takes_of rfl rfl rfl rfl) (by kernel_rfl)) pss_nilE) pss_nilE) (pss_consE (ps_ifE (t_cmpT (op_gtX (u64 hr)) ops_gt (t_ix hr (t_v (by kernel_rfl)) (t_k rfl) (fun _ _ => rfl)) (t_kon k_MOST_SLID (by kernel_rfl)) (by kernel_rfl)) (pss_consE (t_raise PySem.F.excBase_ValueError T.x_TooWide rfl (takes_of rfl rfl rfl rfl) (by kernel_rfl)) pss_nilE) pss_nilE) pss_nilE)))
def n_ask_stand : List Str := ["web", "stand"]
theorem sc_ask_stand : FnScope n_ask_stand ["web", "stand"] (defScope s_ask_stand) := ⟨rfl, rfl, rfl, by decide +kernel, rfl, by decide +kernel, by decide +kernel⟩
def b_ask_stand : M Fw := (evSeq (evDrop (evCall F_ask_whole (evCons (evVar 0) evNil))) (evSeq (evIf (evNotT (evB (evCall F_is_stand_told (evCons (evVar 0) (evCons (evVar 1) evNil))))) (evSeq (evRaise "NoSituation") evNext) evNext) evNext))
def F_ask_stand : Fn := evFn 2 2 b_ask_stand
theorem ok_ask_stand {P : Program} {w : World} {K : PySem.W.Frag} {mg : Str → Option Value} {base : Heap} (T : HD K mg) : Cal P w K mg base 6 2 "ask_stand" F_ask_stand := by
  obtain ⟨fd, F⟩ := T.def_ask_stand.ex
  refine cal_of (k := 5) (N := n_ask_stand) (ps := ["web", "stand"]) (b := b_ask_stand) F T.def_ask_stand.g sc_ask_stand (F.bindsN fun _ _ _ _ _ _ us hl => match us, hl with | [_, _], _ => rfl) fun cdv A outer s H E hr => ?_
  have lv : Lv (cxOf (L2.CX P w) P w K mg base n_ask_stand "ask_stand" (defScope s_ask_stand) (He.ga K "ask_stand") cdv A outer s H E) E := passes_call (takes_of rfl rfl rfl rfl) fun _ _ _ _ h => h
  have hf := T.hf
  have c_ask_whole := ok_ask_whole (P := P) (w := w) (base := base) T
  have c_is_stand_told := ok_is_stand_told (P := P) (w := w) (base := base) T
  exact (pss_consE (ps_exprE (t_call (c_ask_whole.mono (by decide)) hr (by kernel_rfl) lv (t_cons (t_v (by kernel_rfl)) pa_nl rfl) rfl) (by kernel_rfl)) (pss_consE (ps_ifE (pt_notE (pt_valE (t_call (c_is_stand_told.mono (by decide)) hr (by kernel_rfl) lv (t_cons (t_v (by kernel_rfl)) (t_cons (t_v (by kernel_rfl)) pa_nl rfl) rfl) rfl) (fun _ => rfl))) (pss_consE (t_raise PySem.F.excBase_ValueError T.x_NoSituation rfl (takes_of rfl rfl rfl rfl) (by kernel_rfl)) pss_nilE) pss_nilE) pss_nilE))
def n_ask_both_stands : List Str := ["web", "stand", "other"]
theorem sc_ask_both_stands : FnScope n_ask_both_stands ["web", "stand", "other"] (defScope s_ask_both_stands) := ⟨rfl, rfl, rfl, by decide +kernel, rfl, by decide +kernel, by decide +kernel⟩
def b_ask_both_stands : M Fw := (evSeq (evDrop (evCall F_ask_stand (evCons (evVar 0) (evCons (evVar 1) evNil)))) (evSeq (evDrop (evCall F_ask_stand (evCons (evVar 0) (evCons (evVar 2) evNil)))) evNext))
def F_ask_both_stands : Fn := evFn 3 3 b_ask_both_stands
theorem ok_ask_both_stands {P : Program} {w : World} {K : PySem.W.Frag} {mg : Str → Option Value} {base : Heap} (T : HD K mg) : Cal P w K mg base 7 3 "ask_both_stands" F_ask_both_stands := by
  obtain ⟨fd, F⟩ := T.def_ask_both_stands.ex
  refine cal_of (k := 6) (N := n_ask_both_stands) (ps := ["web", "stand", "other"]) (b := b_ask_both_stands) F T.def_ask_both_stands.g sc_ask_both_stands (F.bindsN fun _ _ _ _ _ _ us hl => match us, hl with | [_, _, _], _ => rfl) fun cdv A outer s H E hr => ?_
  have lv : Lv (cxOf (L2.CX P w) P w K mg base n_ask_both_stands "ask_both_stands" (defScope s_ask_both_stands) (He.ga K "ask_both_stands") cdv A outer s H E) E := passes_call (takes_of rfl rfl rfl rfl) fun _ _ _ _ h => h
  have hf := T.hf
  have c_ask_stand := ok_ask_stand (P := P) (w := w) (base := base) T
  exact (pss_consE (ps_exprE (t_call (c_ask_stand.mono (by decide)) hr (by kernel_rfl) lv (t_cons (t_v (by kernel_rfl)) (t_cons (t_v (by kernel_rfl)) pa_nl rfl) rfl) rfl) (by kernel_rfl)) (pss_consE (ps_exprE (t_call (c_ask_stand.mono (by decide)) hr (by kernel_rfl) lv (t_cons (t_v (by kernel_rfl)) (t_cons (t_v (by kernel_rfl)) pa_nl rfl) rfl) rfl) (by kernel_rfl)) pss_nilE))
def n_slide : List Str := ["web", "stand", "room"]
theorem sc_slide : FnScope n_slide ["web", "stand", "room"] (defScope s_slide) := ⟨rfl, rfl, rfl, by decide +kernel, rfl, by decide +kernel, by decide +kernel⟩
def b_slide : M Fw := (evSeq (evDrop (evCall F_ask_stand (evCons (evVar 0) (evCons (evVar 1) evNil)))) (evSeq (evIf (evNotT (evB (evCall F_is_slide_now (evCons (evVar 0) (evCons (evVar 1) (evCons (evVar 2) evNil)))))) (evSeq (evRaiseN "NoRoom" (evVar 2)) evNext) evNext) (evSeq (evRet (evCall F_slid_into (evCons (evVar 1) (evCons (evVar 2) evNil)))) evNext)))
def F_slide : Fn := evFn 3 3 b_slide
theorem ok_slide {P : Program} {w : World} {K : PySem.W.Frag} {mg : Str → Option Value} {base : Heap} (T : HD K mg) : Cal P w K mg base 7 3 "slide" F_slide := by
  obtain ⟨fd, F⟩ := T.def_slide.ex
  refine cal_of (k := 6) (N := n_slide) (ps := ["web", "stand", "room"]) (b := b_slide) F T.def_slide.g sc_slide (F.bindsN fun _ _ _ _ _ _ us hl => match us, hl with | [_, _, _], _ => rfl) fun cdv A outer s H E hr => ?_
  have lv : Lv (cxOf (L2.CX P w) P w K mg base n_slide "slide" (defScope s_slide) (He.ga K "slide") cdv A outer s H E) E := passes_call (takes_of rfl rfl rfl rfl) fun _ _ _ _ h => h
  have hf := T.hf
  have c_ask_stand := ok_ask_stand (P := P) (w := w) (base := base) T
  have c_slid_into := ok_slid_into (P := P) (w := w) (base := base) T
  have c_is_slide_now := ok_is_slide_now (P := P) (w := w) (base := base) T
  exact (pss_consE (ps_exprE (t_call (c_ask_stand.mono (by decide)) hr (by kernel_rfl) lv (t_cons (t_v (by kernel_rfl)) (t_cons (t_v (by kernel_rfl)) pa_nl rfl) rfl) rfl) (by kernel_rfl)) (pss_consE (ps_ifE (pt_notE (pt_valE (t_call (c_is_slide_now.mono (by decide)) hr (by kernel_rfl) lv (t_cons (t_v (by kernel_rfl)) (t_cons (t_v (by kernel_rfl)) (t_cons (t_v (by kernel_rfl)) pa_nl rfl) rfl) rfl) rfl) (fun _ => rfl))) (pss_consE (t_raiseN PySem.F.excBase_LookupError T.y_NoRoom (ok_init_LackError T) (hr.mono (by decide)) rfl (takes_of rfl rfl rfl rfl) (by kernel_rfl) (t_v (by kernel_rfl)) rfl) pss_nilE) pss_nilE) (pss_consE (ps_retE (t_call (c_slid_into.mono (by decide)) hr (by kernel_rfl) lv (t_cons (t_v (by kernel_rfl)) (t_cons (t_v (by kernel_rfl)) pa_nl rfl) rfl) rfl)) pss_nilE)))
def n_slid : List Str := ["web", "stand", "rooms", "here", "number", "room"]
theorem sc_slid : FnScope n_slid ["web", "stand", "rooms"] (defScope s_slid) := ⟨rfl, rfl, rfl, by decide +kernel, rfl, by decide +kernel, by decide +kernel⟩
def b_slid : M Fw := (evSeq (evDrop (evCall F_ask_stand (evCons (evVar 0) (evCons (evVar 1) evNil)))) (evSeq (evIf (evNotT (evB (evOp (opIsi .tuple) (evCons (evVar 2) evNil)))) (evSeq (evRaiseN "NoWalk" (evCon (.int 0))) evNext) evNext) (evSeq (evSet 3 (evVar 1)) (evSeq (evFor (itEnum (evCons (evFzv 2) evNil)) (gvTup 2 (gvCons (gvName 4) (gvCons (gvName 5) gvNil))) (evSeq (evIf (evNotT (evB (evCall F_is_slide_now (evCons (evVar 0) (evCons (evVar 3) (evCons (evVar 5) evNil)))))) (evSeq (evRaiseN "NoWalk" (evVar 4)) evNext) evNext) (evSeq (evSet 3 (evCall F_slid_into (evCons (evVar 3) (evCons (evVar 5) evNil)))) evNext))) (evSeq (evRet (evVar 3)) evNext)))))
def F_slid : Fn := evFn 3 6 b_slid
theorem ok_slid {P : Program} {w : World} {K : PySem.W.Frag} {mg : Str → Option Value} {base : Heap} (T : HD K mg) : Cal P w K mg base 7 3 "slid" F_slid := by
  obtain ⟨fd, F⟩ := T.def_slid.ex
  refine cal_of (k := 6) (N := n_slid) (ps := ["web", "stand", "rooms"]) (b := b_slid) F T.def_slid.g sc_slid (F.bindsN fun _ _ _ _ _ _ us hl => match us, hl with | [_, _, _], _ => rfl) fun cdv A outer s H E hr => ?_
  have lv : Lv (cxOf (L2.CX P w) P w K mg base n_slid "slid" (defScope s_slid) (He.ga K "slid") cdv A outer s H E) E := passes_call (takes_of rfl rfl rfl rfl) fun _ _ _ _ h => h
  have hf := T.hf
  have c_ask_stand := ok_ask_stand (P := P) (w := w) (base := base) T
  have c_slid_into := ok_slid_into (P := P) (w := w) (base := base) T
  have c_is_slide_now := ok_is_slide_now (P := P) (w := w) (base := base) T
  exact (pss_consE (ps_exprE (t_call (c_ask_stand.mono (by decide)) hr (by kernel_rfl) lv (t_cons (t_v (by kernel_rfl)) (t_cons (t_v (by kernel_rfl)) pa_nl rfl) rfl) rfl) (by kernel_rfl)) (pss_consE (ps_ifE (pt_notE (pt_valE (t_isi hf (by simp [free]) (by simp [free]) PyProof.Rows.Boot.«tuple» (by decide) (by kernel_rfl) (by kernel_rfl) (t_v (by kernel_rfl)) rfl) (fun _ => rfl))) (pss_consE (t_raiseN PySem.F.excBase_ValueError T.y_NoWalk (ok_init_NoWalk T) (hr.mono (by decide)) rfl (takes_of rfl rfl rfl rfl) (by kernel_rfl) (t_k rfl) rfl) pss_nilE) pss_nilE) (pss_consE (t_set sc_slid.nd (by kernel_rfl) (t_v (by kernel_rfl)) (by kernel_rfl)) (pss_consE (t_for (passes_of rfl) rfl (t_enum hf (by simp [free]) (by kernel_rfl) (t_cons (t_fv (by kernel_rfl)) pa_nl rfl) rfl) (t_gt rfl (pgs_consE (t_gn sc_slid.nd (by kernel_rfl)) (pgs_consE (t_gn sc_slid.nd (by kernel_rfl)) pgs_nilE rfl) rfl) rfl rfl) (pss_consE (ps_ifE (pt_notE (pt_valE (t_call (c_is_slide_now.mono (by decide)) hr (by kernel_rfl) lv (t_cons (t_v (by kernel_rfl)) (t_cons (t_v (by kernel_rfl)) (t_cons (t_v (by kernel_rfl)) pa_nl rfl) rfl) rfl) rfl) (fun _ => rfl))) (pss_consE (t_raiseN PySem.F.excBase_ValueError T.y_NoWalk (ok_init_NoWalk T) (hr.mono (by decide)) rfl (takes_of rfl rfl rfl rfl) (by kernel_rfl) (t_v (by kernel_rfl)) rfl) pss_nilE) pss_nilE) (pss_consE (t_set sc_slid.nd (by kernel_rfl) (t_call (c_slid_into.mono (by decide)) hr (by kernel_rfl) lv (t_cons (t_v (by kernel_rfl)) (t_cons (t_v (by kernel_rfl)) pa_nl rfl) rfl) rfl) (by kernel_rfl)) pss_nilE)) (fun _ => rfl)) (pss_consE (ps_retE (t_v (by kernel_rfl))) pss_nilE)))))
def n_slides_paper : List Str := ["web", "stand", "other"]
theorem sc_slides_paper : FnScope n_slides_paper ["web", "stand", "other"] (defScope s_slides_paper) := ⟨rfl, rfl, rfl, by decide +kernel, rfl, by decide +kernel, by decide +kernel⟩
def b_slides_paper : M Fw := (evSeq (evDrop (evCall F_ask_both_stands (evCons (evVar 0) (evCons (evVar 1) (evCons (evVar 2) evNil))))) (evSeq (evRet (evCall F_paper_of_slides (evCons (evVar 0) (evCons (evVar 1) (evCons (evVar 2) evNil))))) evNext))
def F_slides_paper : Fn := evFn 3 3 b_slides_paper
theorem ok_slides_paper {P : Program} {w : World} {K : PySem.W.Frag} {mg : Str → Option Value} {base : Heap} (T : HD K mg) : Cal P w K mg base 8 3 "slides_paper" F_slides_paper := by
  obtain ⟨fd, F⟩ := T.def_slides_paper.ex
  refine cal_of (k := 7) (N := n_slides_paper) (ps := ["web", "stand", "other"]) (b := b_slides_paper) F T.def_slides_paper.g sc_slides_paper (F.bindsN fun _ _ _ _ _ _ us hl => match us, hl with | [_, _, _], _ => rfl) fun cdv A outer s H E hr => ?_
  have lv : Lv (cxOf (L2.CX P w) P w K mg base n_slides_paper "slides_paper" (defScope s_slides_paper) (He.ga K "slides_paper") cdv A outer s H E) E := passes_call (takes_of rfl rfl rfl rfl) fun _ _ _ _ h => h
  have hf := T.hf
  have c_ask_both_stands := ok_ask_both_stands (P := P) (w := w) (base := base) T
  have c_paper_of_slides := ok_paper_of_slides (P := P) (w := w) (base := base) T
  exact (pss_consE (ps_exprE (t_call (c_ask_both_stands.mono (by decide)) hr (by kernel_rfl) lv (t_cons (t_v (by kernel_rfl)) (t_cons (t_v (by kernel_rfl)) (t_cons (t_v (by kernel_rfl)) pa_nl rfl) rfl) rfl) rfl) (by kernel_rfl)) (pss_consE (ps_retE (t_call (c_paper_of_slides.mono (by decide)) hr (by kernel_rfl) lv (t_cons (t_v (by kernel_rfl)) (t_cons (t_v (by kernel_rfl)) (t_cons (t_v (by kernel_rfl)) pa_nl rfl) rfl) rfl) rfl)) pss_nilE))
def n_shows_slides : List Str := ["web", "stand", "other", "value"]
theorem sc_shows_slides : FnScope n_shows_slides ["web", "stand", "other", "value"] (defScope s_shows_slides) := ⟨rfl, rfl, rfl, by decide +kernel, rfl, by decide +kernel, by decide +kernel⟩
def b_shows_slides : M Fw := (evSeq (evDrop (evCall F_ask_both_stands (evCons (evVar 0) (evCons (evVar 1) (evCons (evVar 2) evNil))))) (evSeq (evIf (evOrT (evNotT (evB (evOp (opIsi .tuple) (evCons (evVar 3) evNil)))) (evOrT (evNotT (evB (evChain opLe opLe (evCon (.int 2)) (evOp opLenA (evCons (evVar 3) evNil)) (evCon (.int 3))))) (evNotT (evB (evOp (opIsi .str) (evCons (evOp opIxA (evCons (evVar 3) (evCons (evCon (.int 0)) evNil))) evNil)))))) (evSeq (evRet (evCon (.bool false))) evNext) evNext) (evSeq (evIf (evB (evOp opEqA (evCons (evOp opIxA (evCons (evVar 3) (evCons (evCon (.int 0)) evNil))) (evCons (evCon (.str "slides")) evNil)))) (evSeq (evRet (evAnd (evOp opEqA (evCons (evOp opLenA (evCons (evVar 3) evNil)) (evCons (evCon (.int 2)) evNil))) (evCall F_is_led_by (evCons (evVar 0) (evCons (evVar 1) (evCons (evVar 2) (evCons (evOp opIxA (evCons (evVar 3) (evCons (evCon (.int 1)) evNil))) evNil))))))) evNext) evNext) (evSeq (evRet (evAnd (evOp opEqA (evCons (evOp opLenA (evCons (evVar 3) evNil)) (evCons (evCon (.int 3)) evNil))) (evCall F_shows_unlike (evCons (evVar 0) (evCons (evVar 1) (evCons (evVar 2) (evCons (evVar 3) evNil))))))) evNext))))
def F_shows_slides : Fn := evFn 4 4 b_shows_slides
theorem ok_shows_slides {P : Program} {w : World} {K : PySem.W.Frag} {mg : Str → Option Value} {base : Heap} (T : HD K mg) : Cal P w K mg base 8 4 "shows_slides" F_shows_slides := by
  obtain ⟨fd, F⟩ := T.def_shows_slides.ex
  refine cal_of (k := 7) (N := n_shows_slides) (ps := ["web", "stand", "other", "value"]) (b := b_shows_slides) F T.def_shows_slides.g sc_shows_slides (F.bindsN fun _ _ _ _ _ _ us hl => match us, hl with | [_, _, _, _], _ => rfl) fun cdv A outer s H E hr => ?_
  have lv : Lv (cxOf (L2.CX P w) P w K mg base n_shows_slides "shows_slides" (defScope s_shows_slides) (He.ga K "shows_slides") cdv A outer s H E) E := passes_call (takes_of rfl rfl rfl rfl) fun _ _ _ _ h => h
  have hf := T.hf
  have c_ask_both_stands := ok_ask_both_stands (P := P) (w := w) (base := base) T
  have c_shows_unlike := ok_shows_unlike (P := P) (w := w) (base := base) T
  have c_is_led_by := ok_is_led_by (P := P) (w := w) (base := base) T
  have k_SLIDES := T.k_SLIDES
  exact (pss_consE (ps_exprE (t_call (c_ask_both_stands.mono (by decide)) hr (by kernel_rfl) lv (t_cons (t_v (by kernel_rfl)) (t_cons (t_v (by kernel_rfl)) (t_cons (t_v (by kernel_rfl)) pa_nl rfl) rfl) rfl) rfl) (by kernel_rfl)) (pss_consE (ps_ifE (PW.pt (pw_orE (pt_notE (pt_valE (t_isi hf (by simp [free]) (by simp [free]) PyProof.Rows.Boot.«tuple» (by decide) (by kernel_rfl) (by kernel_rfl) (t_v (by kernel_rfl)) rfl) (fun _ => rfl))) (pw_orE (pt_notE (pt_chainE (op_leX (u64 hr)) (op_leX (u64 hr)) (t_k rfl) (t_blt hf call_lenA ops_lenA (by simp [free]) PyProof.Rows.Boot.«len» (by decide) (by kernel_rfl) (t_cons (t_v (by kernel_rfl)) pa_nl rfl) rfl) (t_k rfl) ops_le ops_le (by kernel_rfl))) (pw_or1 (pt_notE (pt_valE (t_isi hf (by simp [free]) (by simp [free]) PyProof.Rows.Boot.«str» (by decide) (by kernel_rfl) (by kernel_rfl) (t_ix hr (t_v (by kernel_rfl)) (t_k rfl) (fun _ _ => rfl)) rfl) (fun _ => rfl))))))) (pss_consE (ps_retE (t_k rfl)) pss_nilE) pss_nilE) (pss_consE (ps_ifE (t_cmpT (op_eqA (u64 hr)) ops_eqNil (t_ix hr (t_v (by kernel_rfl)) (t_k rfl) (fun _ _ => rfl)) (t_kon k_SLIDES (by kernel_rfl)) (by kernel_rfl)) (pss_consE (ps_retE (pe_andE (t_cmp (op_eqA (u64 hr)) ops_eqNil (t_blt hf call_lenA ops_lenA (by simp [free]) PyProof.Rows.Boot.«len» (by decide) (by kernel_rfl) (t_cons (t_v (by kernel_rfl)) pa_nl rfl) rfl) (t_k rfl) (by kernel_rfl)) (pe_one (t_call (c_is_led_by.mono (by decide)) hr (by kernel_rfl) lv (t_cons (t_v (by kernel_rfl)) (t_cons (t_v (by kernel_rfl)) (t_cons (t_v (by kernel_rfl)) (t_cons (t_ix hr (t_v (by kernel_rfl)) (t_k rfl) (fun _ _ => rfl)) pa_nl rfl) rfl) rfl) rfl) rfl)))) pss_nilE) pss_nilE) (pss_consE (ps_retE (pe_andE (t_cmp (op_eqA (u64 hr)) ops_eqNil (t_blt hf call_lenA ops_lenA (by simp [free]) PyProof.Rows.Boot.«len» (by decide) (by kernel_rfl) (t_cons (t_v (by kernel_rfl)) pa_nl rfl) rfl) (t_k rfl) (by kernel_rfl)) (pe_one (t_call (c_shows_unlike.mono (by decide)) hr (by kernel_rfl) lv (t_cons (t_v (by kernel_rfl)) (t_cons (t_v (by kernel_rfl)) (t_cons (t_v (by kernel_rfl)) (t_cons (t_v (by kernel_rfl)) pa_nl rfl) rfl) rfl) rfl) rfl)))) pss_nilE))))
def n_least_slides : List Str := ["web", "stand", "other", "found"]
theorem sc_least_slides : FnScope n_least_slides ["web", "stand", "other"] (defScope s_least_slides) := ⟨rfl, rfl, rfl, by decide +kernel, rfl, by decide +kernel, by decide +kernel⟩
def b_least_slides : M Fw := (evSeq (evDrop (evCall F_ask_both_stands (evCons (evVar 0) (evCons (evVar 1) (evCons (evVar 2) evNil))))) (evSeq (evSet 3 (evCall F_stands_from (evCons (evVar 0) (evCons (evVar 1) evNil)))) (evSeq (evRet (evIte (evB (evOp opInA (evCons (evVar 2) (evCons (evVar 3) evNil)))) (evOp opLenA (evCons (evCall F_rooms_to (evCons (evVar 3) (evCons (evVar 2) evNil))) evNil)) (evCon .none))) evNext)))
def F_least_slides : Fn := evFn 3 4 b_least_slides
theorem ok_least_slides {P : Program} {w : World} {K : PySem.W.Frag} {mg : Str → Option Value} {base : Heap} (T : HD K mg) : Cal P w K mg base 8 3 "least_slides" F_least_slides := by
  obtain ⟨fd, F⟩ := T.def_least_slides.ex
  refine cal_of (k := 7) (N := n_least_slides) (ps := ["web", "stand", "other"]) (b := b_least_slides) F T.def_least_slides.g sc_least_slides (F.bindsN fun _ _ _ _ _ _ us hl => match us, hl with | [_, _, _], _ => rfl) fun cdv A outer s H E hr => ?_
  have lv : Lv (cxOf (L2.CX P w) P w K mg base n_least_slides "least_slides" (defScope s_least_slides) (He.ga K "least_slides") cdv A outer s H E) E := passes_call (takes_of rfl rfl rfl rfl) fun _ _ _ _ h => h
  have hf := T.hf
  have c_ask_both_stands := ok_ask_both_stands (P := P) (w := w) (base := base) T
  have c_stands_from := ok_stands_from (P := P) (w := w) (base := base) T
  have c_rooms_to := ok_rooms_to (P := P) (w := w) (base := base) T
  exact (pss_consE (ps_exprE (t_call (c_ask_both_stands.mono (by decide)) hr (by kernel_rfl) lv (t_cons (t_v (by kernel_rfl)) (t_cons (t_v (by kernel_rfl)) (t_cons (t_v (by kernel_rfl)) pa_nl rfl) rfl) rfl) rfl) (by kernel_rfl)) (pss_consE (t_set sc_least_slides.nd (by kernel_rfl) (t_call (c_stands_from.mono (by decide)) hr (by kernel_rfl) lv (t_cons (t_v (by kernel_rfl)) (t_cons (t_v (by kernel_rfl)) pa_nl rfl) rfl) rfl) (by kernel_rfl)) (pss_consE (ps_retE (pe_iteE (t_cmpT (op_inA (u66 hr)) ops_inA (t_v (by kernel_rfl)) (t_v (by kernel_rfl)) (by kernel_rfl)) (t_blt hf call_lenA ops_lenA (by simp [free]) PyProof.Rows.Boot.«len» (by decide) (by kernel_rfl) (t_cons (t_call (c_rooms_to.mono (by decide)) hr (by kernel_rfl) lv (t_cons (t_v (by kernel_rfl)) (t_cons (t_v (by kernel_rfl)) pa_nl rfl) rfl) rfl) pa_nl rfl) rfl) (t_k rfl))) pss_nilE)))
def n_count_stands : List Str := ["web"]
theorem sc_count_stands : FnScope n_count_stands ["web"] (defScope s_count_stands) := ⟨rfl, rfl, rfl, by decide +kernel, rfl, by decide +kernel, by decide +kernel⟩
def b_count_stands : M Fw := (evSeq (evDrop (evCall F_ask_whole (evCons (evVar 0) evNil))) (evSeq (evRet (evOp opLenA (evCons (evCall F_stands_from (evCons (evVar 0) (evCons (evCall F_first_stand (evCons (evVar 0) evNil)) evNil))) evNil))) evNext))
def F_count_stands : Fn := evFn 1 1 b_count_stands
theorem ok_count_stands {P : Program} {w : World} {K : PySem.W.Frag} {mg : Str → Option Value} {base : Heap} (T : HD K mg) : Cal P w K mg base 6 1 "count_stands" F_count_stands := by
  obtain ⟨fd, F⟩ := T.def_count_stands.ex
  refine cal_of (k := 5) (N := n_count_stands) (ps := ["web"]) (b := b_count_stands) F T.def_count_stands.g sc_count_stands (F.bindsN fun _ _ _ _ _ _ us hl => match us, hl with | [_], _ => rfl) fun cdv A outer s H E hr => ?_
  have lv : Lv (cxOf (L2.CX P w) P w K mg base n_count_stands "count_stands" (defScope s_count_stands) (He.ga K "count_stands") cdv A outer s H E) E := passes_call (takes_of rfl rfl rfl rfl) fun _ _ _ _ h => h
  have hf := T.hf
  have c_ask_whole := ok_ask_whole (P := P) (w := w) (base := base) T
  have c_stands_from := ok_stands_from (P := P) (w := w) (base := base) T
  have c_first_stand := ok_first_stand (P := P) (w := w) (base := base) T
  exact (pss_consE (ps_exprE (t_call (c_ask_whole.mono (by decide)) hr (by kernel_rfl) lv (t_cons (t_v (by kernel_rfl)) pa_nl rfl) rfl) (by kernel_rfl)) (pss_consE (ps_retE (t_blt hf call_lenA ops_lenA (by simp [free]) PyProof.Rows.Boot.«len» (by decide) (by kernel_rfl) (t_cons (t_call (c_stands_from.mono (by decide)) hr (by kernel_rfl) lv (t_cons (t_v (by kernel_rfl)) (t_cons (t_call (c_first_stand.mono (by decide)) hr (by kernel_rfl) lv (t_cons (t_v (by kernel_rfl)) pa_nl rfl) rfl) pa_nl rfl) rfl) rfl) pa_nl rfl) rfl)) pss_nilE))
def n_sign : List Str := ["web", "stand"]
theorem sc_sign : FnScope n_sign ["web", "stand"] (defScope s_sign) := ⟨rfl, rfl, rfl, by decide +kernel, rfl, by decide +kernel, by decide +kernel⟩
def b_sign : M Fw := (evSeq (evDrop (evCall F_ask_stand (evCons (evVar 0) (evCons (evVar 1) evNil)))) (evSeq (evRet (evCall F_sign_of (evCons (evVar 0) (evCons (evVar 1) evNil)))) evNext))
def F_sign : Fn := evFn 2 2 b_sign
theorem ok_sign {P : Program} {w : World} {K : PySem.W.Frag} {mg : Str → Option Value} {base : Heap} (T : HD K mg) : Cal P w K mg base 7 2 "sign" F_sign := by
  obtain ⟨fd, F⟩ := T.def_sign.ex
  refine cal_of (k := 6) (N := n_sign) (ps := ["web", "stand"]) (b := b_sign) F T.def_sign.g sc_sign (F.bindsN fun _ _ _ _ _ _ us hl => match us, hl with | [_, _], _ => rfl) fun cdv A outer s H E hr => ?_
  have lv : Lv (cxOf (L2.CX P w) P w K mg base n_sign "sign" (defScope s_sign) (He.ga K "sign") cdv A outer s H E) E := passes_call (takes_of rfl rfl rfl rfl) fun _ _ _ _ h => h
  have hf := T.hf
  have c_ask_stand := ok_ask_stand (P := P) (w := w) (base := base) T
  have c_sign_of := ok_sign_of (P := P) (w := w) (base := base) T
  exact (pss_consE (ps_exprE (t_call (c_ask_stand.mono (by decide)) hr (by kernel_rfl) lv (t_cons (t_v (by kernel_rfl)) (t_cons (t_v (by kernel_rfl)) pa_nl rfl) rfl) rfl) (by kernel_rfl)) (pss_consE (ps_retE (t_call (c_sign_of.mono (by decide)) hr (by kernel_rfl) lv (t_cons (t_v (by kernel_rfl)) (t_cons (t_v (by kernel_rfl)) pa_nl rfl) rfl) rfl)) pss_nilE))
def n_round_things : List Str := ["web", "stand"]
theorem sc_round_things : FnScope n_round_things ["web", "stand"] (defScope s_round_things) := ⟨rfl, rfl, rfl, by decide +kernel, rfl, by decide +kernel, by decide +kernel⟩
def b_round_things : M Fw := (evSeq (evDrop (evCall F_ask_stand (evCons (evVar 0) (evCons (evVar 1) evNil)))) (evSeq (evRet (evCall F_round_of_things (evCons (evVar 0) (evCons (evVar 1) evNil)))) evNext))
def F_round_things : Fn := evFn 2 2 b_round_things
theorem ok_round_things {P : Program} {w : World} {K : PySem.W.Frag} {mg : Str → Option Value} {base : Heap} (T : HD K mg) : Cal P w K mg base 7 2 "round_things" F_round_things := by
  obtain ⟨fd, F⟩ := T.def_round_things.ex
  refine cal_of (k := 6) (N := n_round_things) (ps := ["web", "stand"]) (b := b_round_things) F T.def_round_things.g sc_round_things (F.bindsN fun _ _ _ _ _ _ us hl => match us, hl with | [_, _], _ => rfl) fun cdv A outer s H E hr => ?_
  have lv : Lv (cxOf (L2.CX P w) P w K mg base n_round_things "round_things" (defScope s_round_things) (He.ga K "round_things") cdv A outer s H E) E := passes_call (takes_of rfl rfl rfl rfl) fun _ _ _ _ h => h
  have hf := T.hf
  have c_ask_stand := ok_ask_stand (P := P) (w := w) (base := base) T
  have c_round_of_things := ok_round_of_things (P := P) (w := w) (base := base) T
  exact (pss_consE (ps_exprE (t_call (c_ask_stand.mono (by decide)) hr (by kernel_rfl) lv (t_cons (t_v (by kernel_rfl)) (t_cons (t_v (by kernel_rfl)) pa_nl rfl) rfl) rfl) (by kernel_rfl)) (pss_consE (ps_retE (t_call (c_round_of_things.mono (by decide)) hr (by kernel_rfl) lv (t_cons (t_v (by kernel_rfl)) (t_cons (t_v (by kernel_rfl)) pa_nl rfl) rfl) rfl)) pss_nilE))
def n__law_bag : List Str := ["script", "turn_of", "cell", "great", "mixed"]
theorem sc__law_bag : FnScope n__law_bag ["script", "turn_of"] (defScope s__law_bag) := ⟨rfl, rfl, rfl, by decide +kernel, rfl, by decide +kernel, by decide +kernel⟩
def b__law_bag : M Fw := (evSeq (evSet 2 (evIte (evB (evOp opLt (evCons (evVar 1) (evCons (evOp opLenA (evCons (evVar 0) evNil)) evNil)))) (evOp opInt (evCons (evOp opIxA (evCons (evVar 0) (evCons (evVar 1) evNil))) evNil)) (evOp opAdd (evCons (evOp opMul (evCons (evCon (.int 919)) (evCons (evVar 1) evNil))) (evCons (evCon (.int 103)) evNil))))) (evSeq (evSet 3 (evOp opMod (evCons (evOp opInt (evCons (evOp opAbs (evCons (evVar 2) evNil)) evNil)) (evCons (evOp opPow (evCons (evOp opPow (evCons (evCon (.int 10)) (evCons (evCon (.int 39)) evNil))) (evCons (evCon (.int 8)) evNil))) evNil)))) (evSeq (evSet 4 (evOp opAdd (evCons (evOp opAdd (evCons (evOp opAdd (evCons (evOp opMul (evCons (evOp opMod (evCons (evVar 3) (evCons (evCon (.int 2305843009213693951)) evNil))) (evCons (evCon (.int 179)) evNil))) (evCons (evOp opMul (evCons (evCon (.int 619)) (evCons (evVar 1) evNil))) evNil))) (evCons (evOp opMul (evCons (evCon (.int 131)) (evCons (evOp opInt (evCons (evOp opLt (evCons (evVar 2) (evCons (evCon (.int 0)) evNil))) evNil)) evNil))) evNil))) (evCons (evCon (.int 83)) evNil)))) (evSeq (evRet (evLst (evCons (evOp opMax2 (evCons (evCon (.int 0)) (evCons (evOp opSub (evCons (evVar 3) (evCons (evOp opPow (evCons (evCon (.int 10)) (evCons (evCon (.int 16)) evNil))) evNil))) evNil))) (evCons (evVar 4) (evCons (evCon (.int 0)) evNil))))) evNext))))
def F__law_bag : Fn := evFn 2 5 b__law_bag
theorem ok__law_bag {P : Program} {w : World} {K : PySem.W.Frag} {mg : Str → Option Value} {base : Heap} (T : HD K mg) : Cal P w K mg base 1 2 "_law_bag" F__law_bag := by
  obtain ⟨fd, F⟩ := T.def__law_bag.ex
  refine cal_of (k := 0) (N := n__law_bag) (ps := ["script", "turn_of"]) (b := b__law_bag) F T.def__law_bag.g sc__law_bag (F.bindsN fun _ _ _ _ _ _ us hl => match us, hl with | [_, _], _ => rfl) fun cdv A outer s H E hr => ?_
  have lv : Lv (cxOf (L2.CX P w) P w K mg base n__law_bag "_law_bag" (defScope s__law_bag) (He.ga K "_law_bag") cdv A outer s H E) E := passes_call (takes_of rfl rfl rfl rfl) fun _ _ _ _ h => h
  have hf := T.hf
  exact (pss_consE (t_set sc__law_bag.nd (by kernel_rfl) (pe_iteE (t_cmpT (op_ltX (u64 hr)) ops_lt (t_v (by kernel_rfl)) (t_blt hf call_lenA ops_lenA (by simp [free]) PyProof.Rows.Boot.«len» (by decide) (by kernel_rfl) (t_cons (t_v (by kernel_rfl)) pa_nl rfl) rfl) (by kernel_rfl)) (t_bty hf call_int1 ops_int (by simp [free]) PyProof.Rows.Boot.«int» (by decide) (by kernel_rfl) (t_cons (t_ix hr (t_v (by kernel_rfl)) (t_v (by kernel_rfl)) (fun _ _ => rfl)) pa_nl rfl) rfl) (t_op2 op_addD ops_add (t_op2 op_mulD ops_mul (t_k rfl) (t_v (by kernel_rfl))) (t_k rfl))) (by kernel_rfl)) (pss_consE (t_set sc__law_bag.nd (by kernel_rfl) (t_op2 op_mod ops_mod (t_bty hf call_int1 ops_int (by simp [free]) PyProof.Rows.Boot.«int» (by decide) (by kernel_rfl) (t_cons (t_blt hf call_abs ops_abs (by simp [free]) PyProof.Rows.Boot.«abs» (by decide) (by kernel_rfl) (t_cons (t_v (by kernel_rfl)) pa_nl rfl) rfl) pa_nl rfl) rfl) (t_op2 op_powW ops_pow (t_op2 op_powW ops_pow (t_k rfl) (t_k rfl)) (t_k rfl))) (by kernel_rfl)) (pss_consE (t_set sc__law_bag.nd (by kernel_rfl) (t_op2 op_addD ops_add (t_op2 op_addD ops_add (t_op2 op_addD ops_add (t_op2 op_mulD ops_mul (t_op2 op_mod ops_mod (t_v (by kernel_rfl)) (t_k rfl)) (t_k rfl)) (t_op2 op_mulD ops_mul (t_k rfl) (t_v (by kernel_rfl)))) (t_op2 op_mulD ops_mul (t_k rfl) (t_bty hf call_int1 ops_int (by simp [free]) PyProof.Rows.Boot.«int» (by decide) (by kernel_rfl) (t_cons (t_cmp (op_ltX (u64 hr)) ops_lt (t_v (by kernel_rfl)) (t_k rfl) (by kernel_rfl)) pa_nl rfl) rfl))) (t_k rfl)) (by kernel_rfl)) (pss_consE (ps_retE (pe_lstE (t_cons (t_blt hf (call_max2 rfl) ops_max2 (by simp [free]) PyProof.Rows.Boot.«max» (by decide) (by kernel_rfl) (t_cons (t_k rfl) (t_cons (t_op2 op_sub ops_sub (t_v (by kernel_rfl)) (t_op2 op_powW ops_pow (t_k rfl) (t_k rfl))) pa_nl rfl) rfl) rfl) (t_cons (t_v (by kernel_rfl)) (t_cons (t_k rfl) pa_nl rfl) rfl) rfl))) pss_nilE))))
def n__law_pull : List Str := ["bag", "many", "one", "two", "found"]
theorem sc__law_pull : FnScope n__law_pull ["bag", "many"] (defScope s__law_pull) := ⟨rfl, rfl, rfl, by decide +kernel, rfl, by decide +kernel, by decide +kernel⟩
def b__law_pull : M Fw := (evSeq (evIf (evB (evOp opGt (evCons (evOp opIxA (evCons (evVar 0) (evCons (evCon (.int 0)) evNil))) (evCons (evCon (.int 0)) evNil)))) (evSeq (evSet 4 (evOp opMod (evCons (evOp opInt (evCons (evOp opIxA (evCons (evVar 0) (evCons (evCon (.int 0)) evNil))) evNil)) (evCons (evVar 1) evNil)))) (evSeq (evStore 0 sAny (evCon (.int 0)) (evOp opDiv (evCons (evOp opIxA (evCons (evVar 0) (evCons (evCon (.int 0)) evNil))) (evCons (evVar 1) evNil)))) (evSeq (evRet (evVar 4)) evNext))) evNext) (evSeq (evStore 0 sAny (evCon (.int 2)) (evOp opAdd (evCons (evOp opIxA (evCons (evVar 0) (evCons (evCon (.int 2)) evNil))) (evCons (evCon (.int 1)) evNil)))) (evSeq (evSet 2 (evOp opMod (evCons (evOp opInt (evCons (evOp opAdd (evCons (evOp opIxA (evCons (evVar 0) (evCons (evCon (.int 1)) evNil))) (evCons (evOp opMul (evCons (evCon (.int 10001741)) (evCons (evOp opIxA (evCons (evVar 0) (evCons (evCon (.int 2)) evNil))) evNil))) evNil))) evNil)) (evCons (evCon (.int 2305843009213693951)) evNil)))) (evSeq (evSet 3 (evOp opAdd (evCons (evOp opMul (evCons (evOp opMod (evCons (evOp opInt (evCons (evOp opAdd (evCons (evOp opMul (evCons (evVar 2) (evCons (evVar 2) evNil))) (evCons (evOp opMul (evCons (evCon (.int 751)) (evCons (evOp opIxA (evCons (evVar 0) (evCons (evCon (.int 2)) evNil))) evNil))) evNil))) evNil)) (evCons (evCon (.int 2305843009213693951)) evNil))) (evCons (evCon (.int 8589934609)) evNil))) (evCons (evVar 2) evNil)))) (evSeq (evRet (evOp opMod (evCons (evOp opInt (evCons (evOp opDiv (evCons (evVar 3) (evCons (evCon (.int 131072)) evNil))) evNil)) (evCons (evVar 1) evNil)))) evNext)))))
def F__law_pull : Fn := evFn 2 5 b__law_pull
theorem ok__law_pull {P : Program} {w : World} {K : PySem.W.Frag} {mg : Str → Option Value} {base : Heap} (T : HD K mg) : Cal P w K mg base 1 2 "_law_pull" F__law_pull := by
  obtain ⟨fd, F⟩ := T.def__law_pull.ex
  refine cal_of (k := 0) (N := n__law_pull) (ps := ["bag", "many"]) (b := b__law_pull) F T.def__law_pull.g sc__law_pull (F.bindsN fun _ _ _ _ _ _ us hl => match us, hl with | [_, _], _ => rfl) fun cdv A outer s H E hr => ?_
  have lv : Lv (cxOf (L2.CX P w) P w K mg base n__law_pull "_law_pull" (defScope s__law_pull) (He.ga K "_law_pull") cdv A outer s H E) E := passes_call (takes_of rfl rfl rfl rfl) fun _ _ _ _ h => h
  have hf := T.hf
  exact (pss_consE (ps_ifE (t_cmpT (op_gtX (u64 hr)) ops_gt (t_ix hr (t_v (by kernel_rfl)) (t_k rfl) (fun _ _ => rfl)) (t_k rfl) (by kernel_rfl)) (pss_consE (t_set sc__law_pull.nd (by kernel_rfl) (t_op2 op_mod ops_mod (t_bty hf call_int1 ops_int (by simp [free]) PyProof.Rows.Boot.«int» (by decide) (by kernel_rfl) (t_cons (t_ix hr (t_v (by kernel_rfl)) (t_k rfl) (fun _ _ => rfl)) pa_nl rfl) rfl) (t_v (by kernel_rfl))) (by kernel_rfl)) (pss_consE (t_store hr (by kernel_rfl) (t_k rfl) (t_op2 op_fdivW ops_div (t_ix hr (t_v (by kernel_rfl)) (t_k rfl) (fun _ _ => rfl)) (t_v (by kernel_rfl))) rfl) (pss_consE (ps_retE (t_v (by kernel_rfl))) pss_nilE))) pss_nilE) (pss_consE (t_store hr (by kernel_rfl) (t_k rfl) (t_op2 op_addD ops_add (t_ix hr (t_v (by kernel_rfl)) (t_k rfl) (fun _ _ => rfl)) (t_k rfl)) rfl) (pss_consE (t_set sc__law_pull.nd (by kernel_rfl) (t_op2 op_mod ops_mod (t_bty hf call_int1 ops_int (by simp [free]) PyProof.Rows.Boot.«int» (by decide) (by kernel_rfl) (t_cons (t_op2 op_addD ops_add (t_ix hr (t_v (by kernel_rfl)) (t_k rfl) (fun _ _ => rfl)) (t_op2 op_mulD ops_mul (t_k rfl) (t_ix hr (t_v (by kernel_rfl)) (t_k rfl) (fun _ _ => rfl)))) pa_nl rfl) rfl) (t_k rfl)) (by kernel_rfl)) (pss_consE (t_set sc__law_pull.nd (by kernel_rfl) (t_op2 op_addD ops_add (t_op2 op_mulD ops_mul (t_op2 op_mod ops_mod (t_bty hf call_int1 ops_int (by simp [free]) PyProof.Rows.Boot.«int» (by decide) (by kernel_rfl) (t_cons (t_op2 op_addD ops_add (t_op2 op_mulD ops_mul (t_v (by kernel_rfl)) (t_v (by kernel_rfl))) (t_op2 op_mulD ops_mul (t_k rfl) (t_ix hr (t_v (by kernel_rfl)) (t_k rfl) (fun _ _ => rfl)))) pa_nl rfl) rfl) (t_k rfl)) (t_k rfl)) (t_v (by kernel_rfl))) (by kernel_rfl)) (pss_consE (ps_retE (t_op2 op_mod ops_mod (t_bty hf call_int1 ops_int (by simp [free]) PyProof.Rows.Boot.«int» (by decide) (by kernel_rfl) (t_cons (t_op2 op_fdivW ops_div (t_v (by kernel_rfl)) (t_k rfl)) pa_nl rfl) rfl) (t_v (by kernel_rfl)))) pss_nilE)))))
def n__law_choose : List Str := ["bag", "items"]
theorem sc__law_choose : FnScope n__law_choose ["bag", "items"] (defScope s__law_choose) := ⟨rfl, rfl, rfl, by decide +kernel, rfl, by decide +kernel, by decide +kernel⟩
def b__law_choose : M Fw := (evSeq (evRet (evOp opIxA (evCons (evVar 1) (evCons (evCall F__law_pull (evCons (evVar 0) (evCons (evOp opLenA (evCons (evVar 1) evNil)) evNil))) evNil)))) evNext)
def F__law_choose : Fn := evFn 2 2 b__law_choose
theorem ok__law_choose {P : Program} {w : World} {K : PySem.W.Frag} {mg : Str → Option Value} {base : Heap} (T : HD K mg) : Cal P w K mg base 2 2 "_law_choose" F__law_choose := by
  obtain ⟨fd, F⟩ := T.def__law_choose.ex
  refine cal_of (k := 1) (N := n__law_choose) (ps := ["bag", "items"]) (b := b__law_choose) F T.def__law_choose.g sc__law_choose (F.bindsN fun _ _ _ _ _ _ us hl => match us, hl with | [_, _], _ => rfl) fun cdv A outer s H E hr => ?_
  have lv : Lv (cxOf (L2.CX P w) P w K mg base n__law_choose "_law_choose" (defScope s__law_choose) (He.ga K "_law_choose") cdv A outer s H E) E := passes_call (takes_of rfl rfl rfl rfl) fun _ _ _ _ h => h
  have hf := T.hf
  have c__law_pull := ok__law_pull (P := P) (w := w) (base := base) T
  exact (pss_consE (ps_retE (t_ix hr (t_v (by kernel_rfl)) (t_call (c__law_pull.mono (by decide)) hr (by kernel_rfl) lv (t_cons (t_v (by kernel_rfl)) (t_cons (t_blt hf call_lenA ops_lenA (by simp [free]) PyProof.Rows.Boot.«len» (by decide) (by kernel_rfl) (t_cons (t_v (by kernel_rfl)) pa_nl rfl) rfl) pa_nl rfl) rfl) rfl) (fun _ _ => rfl))) pss_nilE)
def n__law_right : List Str := ["bag", "none", "wide", "stand", "room", "value", "ring", "good", "told", "due", "web", "word", "at"]
theorem sc__law_right : FnScope n__law_right ["bag"] (defScope s__law_right) := ⟨rfl, rfl, rfl, by decide +kernel, rfl, by decide +kernel, by decide +kernel⟩
def b__law_right : M Fw := (evSeq (evSet 1 (evLst (evCons (evCon .none) (evCons (evCon (.int 0)) (evCons (evTup evNil) (evCons (evLst (evCons (evCon (.int 2)) (evCons (evTup (evCons (evTup (evCons (evCon (.int 0)) (evCons (evCon (.int 1)) evNil))) evNil)) evNil))) (evCons (evTup (evCons (evCon (.int 0)) (evCons (evTup evNil) evNil))) (evCons (evTup (evCons (evCon (.int 10)) (evCons (evTup evNil) evNil))) (evCons (evTup (evCons (evCon (.int 2)) (evCons (evLst (evCons (evTup (evCons (evCon (.int 0)) (evCons (evCon (.int 1)) evNil))) evNil)) evNil))) (evCons (evTup (evCons (evCon (.int 2)) (evCons (evTup (evCons (evTup (evCons (evCon (.int 1)) (evCons (evCon (.int 0)) evNil))) evNil)) evNil))) (evCons (evTup (evCons (evCon (.int 2)) (evCons (evTup (evCons (evTup (evCons (evCon (.int 0)) (evCons (evCon (.int 2)) evNil))) evNil)) evNil))) (evCons (evTup (evCons (evCon (.bool true)) (evCons (evTup evNil) evNil))) (evCons (evTup (evCons (evCon (.int 2)) (evCons (evTup (evCons (evTup (evCons (evCon (.int 0)) (evCons (evCon (.int 1)) (evCons (evCon (.int 1)) evNil)))) evNil)) evNil))) (evCons evDict0 (evCons (evTup (evCons (evCon (.int 2)) evNil)) (evCons (evTup (evCons (evCon (.int 2)) (evCons (evTup (evCons (evTup (evCons (evCon (.int 0)) (evCons (evCon (.bool true)) evNil))) evNil)) evNil))) evNil)))))))))))))))) (evSeq (evSet 1 (evCall F__law_choose (evCons (evVar 0) (evCons (evOp opAdd (evCons (evVar 1) (evCons (evLst (evCons (evTup (evCons (evCon (.int 1)) (evCons (evTup evNil) evNil))) (evCons (evTup (evCons (evCon (.int 2)) (evCons (evTup evNil) evNil))) (evCons (evTup (evCons (evCon (.int 3)) (evCons (evTup (evCons (evTup (evCons (evCon (.int 0)) (evCons (evCon (.int 1)) evNil))) (evCons (evTup (evCons (evCon (.int 1)) (evCons (evCon (.int 2)) evNil))) evNil))) evNil))) (evCons (evTup (evCons (evCon (.int 4)) (evCons (evTup (evCons (evTup (evCons (evCon (.int 0)) (evCons (evCon (.int 1)) evNil))) (evCons (evTup (evCons (evCon (.int 2)) (evCons (evCon (.int 3)) evNil))) evNil))) evNil))) (evCons (evTup (evCons (evCon (.int 5)) (evCons (evTup (evCons (evTup (evCons (evCon (.int 0)) (evCons (evCon (.int 1)) evNil))) (evCons (evTup (evCons (evCon (.int 0)) (evCons (evCon (.int 2)) evNil))) (evCons (evTup (evCons (evCon (.int 0)) (evCons (evCon (.int 3)) evNil))) (evCons (evTup (evCons (evCon (.int 0)) (evCons (evCon (.int 4)) evNil))) (evCons (evTup (evCons (evCon (.int 1)) (evCons (evCon (.int 2)) evNil))) (evCons (evTup (evCons (evCon (.int 3)) (evCons (evCon (.int 4)) evNil))) evNil))))))) evNil))) (evCons (evTup (evCons (evCon (.int 9)) (evCons (evTup evNil) evNil))) evNil))))))) evNil))) evNil)))) (evSeq (evSet 2 (evOp opAdd (evCons (evCon (.int 7)) (evCons (evCall F__law_pull (evCons (evVar 0) (evCons (evCon (.int 3)) evNil))) evNil)))) (evSeq (evSet 2 (evTup (evCons (evVar 2) (evCons (evOp opTuple (evCons (evOp opSortedA (evCons (evOp opAdd (evCons (evLc (itRng1 (evCons (evOp opSub (evCons (evVar 2) (evCons (evCon (.int 1)) evNil))) evNil)) (gvName 12) evTrue (evTup (evCons (evVar 12) (evCons (evOp opAdd (evCons (evVar 12) (evCons (evCon (.int 1)) evNil))) evNil))) [12]) (evCons (evLst (evCons (evTup (evCons (evCon (.int 0)) (evCons (evOp opSub (evCons (evVar 2) (evCons (evCon (.int 1)) evNil))) evNil))) evNil)) evNil))) evNil)) evNil)) evNil)))) (evSeq (evSet 3 (evCall F__law_choose (evCons (evVar 0) (evCons (evLst (evCons (evCon .none) (evCons (evCon (.int 0)) (evCons (evTup evNil) (evCons (evLst (evCons (evCon .none) (evCons (evCon (.int 1)) (evCons (evCon (.int 2)) evNil)))) (evCons (evTup (evCons (evCon .none) (evCons (evCon (.int 1)) evNil))) (evCons (evTup (evCons (evCon .none) (evCons (evCon (.int 1)) (evCons (evCon (.int 1)) evNil)))) (evCons (evTup (evCons (evCon .none) (evCons (evCon .none) (evCons (evCon (.int 1)) evNil)))) (evCons (evTup (evCons (evCon (.int 0)) (evCons (evCon (.int 1)) (evCons (evCon (.int 2)) evNil)))) (evCons (evTup (evCons (evCon (.int 1)) (evCons (evCon (.int 2)) (evCons (evCon (.int 3)) evNil)))) (evCons (evTup (evCons (evCon .none) (evCons (evCon (.int 1)) (evCons (evCon (.int 3)) evNil)))) (evCons (evTup (evCons (evCon .none) (evCons (evCon (.bool true)) (evCons (evCon (.int 2)) evNil)))) (evCons (evTup (evCons (evCon .none) (evCons (evCon (.int 1)) (evCons (evCon (.str "2")) evNil)))) (evCons (evCon (.str "012")) (evCons evDict0 (evCons (evTup (evCons (evCon .none) (evCons (evCon (.int 0)) (evCons (evCon (.int 1)) evNil)))) (evCons (evTup (evCons (evCon .none) (evCons (evCon (.int 1)) (evCons evDict0 evNil)))) evNil))))))))))))))))) evNil)))) (evSeq (evSet 4 (evCall F__law_choose (evCons (evVar 0) (evCons (evLst (evCons (evCon .none) (evCons (evCon (.int 0)) (evCons (evCon (.int 3)) (evCons (evOp opNeg (evCons (evCon (.int 1)) evNil)) (evCons (evCon (.bool true)) (evCons (evCon (.str "1")) (evCons (evTup (evCons (evCon (.int 1)) evNil)) (evCons (evLst evNil) (evCons evDict0 (evCons (evOp opPow (evCons (evCon (.int 10)) (evCons (evCon (.int 30)) evNil))) evNil))))))))))) evNil)))) (evSeq (evPar [6, 7, 8, 9] (evNCons (evTup (evCons (evCon (.int 3)) (evCons (evTup (evCons (evTup (evCons (evCon (.int 0)) (evCons (evCon (.int 1)) evNil))) (evCons (evTup (evCons (evCon (.int 0)) (evCons (evCon (.int 2)) evNil))) (evCons (evTup (evCons (evCon (.int 1)) (evCons (evCon (.int 2)) evNil))) evNil)))) evNil))) (evNCons (evTup (evCons (evCon .none) (evCons (evCon (.int 1)) (evCons (evCon (.int 2)) evNil)))) (evNCons (evLst evNil) (evNCons (evLst evNil) evNNil))))) (evSeq (evFor (itAny (evTup (evCons (evTup (evCons (evVar 1) (evCons (evCon (.str "house")) evNil))) (evCons (evTup (evCons (evVar 2) (evCons (evCon (.str "wide")) evNil))) (evCons (evTup (evCons (evVar 6) (evCons (evCon (.str "stand")) evNil))) evNil))))) (gvTup 2 (gvCons (gvName 10) (gvCons (gvName 11) gvNil))) (evSeq (evDrop (evMut 8 .lst mAppend false (evCons (evLam h__law_met (evCall F_slide (evCons (evVar 10) (evCons (evVar 3) (evCons (evVar 4) evNil))))) evNil))) (evSeq (evDrop (evMut 8 .lst mAppend false (evCons (evLam h__law_met (evCall F_slid (evCons (evVar 10) (evCons (evVar 3) (evCons (evVar 4) evNil))))) evNil))) (evSeq (evDrop (evMut 8 .lst mAppend false (evCons (evLam h__law_met (evCall F_slides_paper (evCons (evVar 10) (evCons (evVar 3) (evCons (evVar 3) evNil))))) evNil))) (evSeq (evDrop (evMut 8 .lst mAppend false (evCons (evLam h__law_met (evCall F_shows_slides (evCons (evVar 10) (evCons (evVar 3) (evCons (evVar 3) (evCons (evCon .none) evNil)))))) evNil))) (evSeq (evDrop (evMut 8 .lst mAppend false (evCons (evLam h__law_met (evCall F_least_slides (evCons (evVar 10) (evCons (evVar 3) (evCons (evVar 3) evNil))))) evNil))) (evSeq (evDrop (evMut 8 .lst mAppend false (evCons (evLam h__law_met (evCall F_sign (evCons (evVar 10) (evCons (evVar 3) evNil)))) evNil))) (evSeq (evDrop (evMut 8 .lst mAppend false (evCons (evLam h__law_met (evCall F_round_things (evCons (evVar 10) (evCons (evVar 3) evNil)))) evNil))) (evSeq (evSet 9 (evOp opAdd (evCons (evVar 9) (evCons (evOp opMul (evCons (evLst (evCons (evVar 11) evNil)) (evCons (evCon (.int 7)) evNil))) evNil)))) evNext))))))))) (evSeq (evDrop (evMut 8 .lst mAppend false (evCons (evLam h__law_met (evCall F_count_stands (evCons (evVar 1) evNil))) evNil))) (evSeq (evDrop (evMut 8 .lst mAppend false (evCons (evLam h__law_met (evCall F_count_stands (evCons (evVar 2) evNil))) evNil))) (evSeq (evDrop (evMut 8 .lst mAppend false (evCons (evLam h__law_met (evCall F_slides_paper (evCons (evVar 6) (evCons (evVar 7) (evCons (evVar 3) evNil))))) evNil))) (evSeq (evDrop (evMut 8 .lst mAppend false (evCons (evLam h__law_met (evCall F_least_slides (evCons (evVar 6) (evCons (evVar 7) (evCons (evVar 3) evNil))))) evNil))) (evSeq (evDrop (evMut 8 .lst mAppend false (evCons (evLam h__law_met (evCall F_slide (evCons (evVar 6) (evCons (evVar 7) (evCons (evVar 4) evNil))))) evNil))) (evSeq (evDrop (evMut 8 .lst mAppend false (evCons (evLam h__law_met (evCall F_slid (evCons (evVar 6) (evCons (evVar 7) (evCons (evTup (evCons (evCon (.int 1)) (evCons (evCon (.int 0)) (evCons (evVar 4) evNil)))) evNil))))) evNil))) (evSeq (evDrop (evMut 8 .lst mAppend false (evCons (evLam h__law_met (evCall F_slid (evCons (evVar 6) (evCons (evVar 7) (evCons (evLst (evCons (evCon (.int 1)) (evCons (evCon (.int 0)) evNil))) evNil))))) evNil))) (evSeq (evDrop (evMut 8 .lst mAppend false (evCons (evLam h__law_met (evCall F_slid (evCons (evVar 6) (evCons (evVar 7) (evCons (evTup (evCons (evCon (.int 0)) evNil)) evNil))))) evNil))) (evSeq (evDrop (evMut 8 .lst mAppend false (evCons (evLam h__law_met (evCall F_slid (evCons (evVar 6) (evCons (evVar 7) (evCons (evTup (evCons (evCon (.int 1)) (evCons (evCon (.int 1)) evNil))) evNil))))) evNil))) (evSeq (evIf (evB (evOp opNe (evCons (evVar 8) (evCons (evOp opAdd (evCons (evVar 9) (evCons (evLst (evCons (evCon (.str "house")) (evCons (evCon (.str "wide")) (evCons (evCon (.str "stand")) (evCons (evCon (.str "stand")) (evCons (evTup (evCons (evCon (.str "room")) (evCons (evOp opRepr (evCons (evVar 4) evNil)) evNil))) (evCons (evTup (evCons (evCon (.str "walk")) (evCons (evCon (.int 2)) evNil))) (evCons (evTup (evCons (evCon (.str "walk")) (evCons (evCon (.int 0)) evNil))) (evCons (evTup (evCons (evCon (.str "walk")) (evCons (evCon (.int 0)) evNil))) (evCons (evTup (evCons (evCon (.str "walk")) (evCons (evCon (.int 1)) evNil))) evNil)))))))))) evNil))) evNil)))) (evSeq (evRet (evCon (.bool false))) evNext) evNext) (evSeq (evFor (itAny (evLst (evCons (evVar 1) (evCons (evVar 2) (evCons (evVar 3) (evCons (evVar 4) (evCons evDict0 (evCons (evLst (evCons (evLst evNil) evNil)) (evCons (evDict1 (evCon (.str "a")) (evCon (.int 1))) (evCons (evTup (evCons (evCon (.str "slides")) (evCons evDict0 evNil))) (evCons (evTup (evCons (evCon (.str "slides")) (evCons (evTup (evCons evDict0 evNil)) evNil))) (evCons (evTup (evCons (evCon (.str "slides")) (evCons (evTup (evCons (evCon .none) evNil)) evNil))) (evCons (evTup (evCons (evCon (.str "rounds")) (evCons evDict0 (evCons (evLst evNil) evNil)))) (evCons (evTup (evCons (evCon (.str "rounds")) (evCons (evTup (evCons evDict0 (evCons (evCon (.int 1)) evNil))) (evCons (evTup (evCons (evCon (.int 1)) (evCons (evCon (.int 2)) evNil))) evNil)))) (evCons (evTup (evCons (evCon (.str "signs")) (evCons evDict0 (evCons (evCon (.int 1)) evNil)))) (evCons (evTup (evCons (evCon (.str "signs")) (evCons (evLst evNil) (evCons evDict0 evNil)))) (evCons (evTup (evCons evDict0 (evCons (evCon (.int 0)) evNil))) evNil))))))))))))))))) (gvName 5) (evSeq (evIf (evB (evOp opIsNot (evCons (evCall F_shows_slides (evCons (evVar 6) (evCons (evVar 7) (evCons (evTup (evCons (evCon .none) (evCons (evCon (.int 2)) (evCons (evCon (.int 1)) evNil)))) (evCons (evVar 5) evNil))))) (evCons (evCon (.bool false)) evNil)))) (evSeq (evRet (evCon (.bool false))) evNext) evNext) evNext)) (evSeq (evRet (evCon (.bool true))) evNext))))))))))))))))))))
def F__law_right : Fn := evFn 1 13 b__law_right
theorem ok__law_right {P : Program} {w : World} {K : PySem.W.Frag} {mg : Str → Option Value} {base : Heap} (T : HD K mg) (TB : LamX.TabB base mg (He.cT K ("_law_right", none)).1 (He.cT K ("_law_right", none)).2) {fd : FuncData} (F : FunD K "_law_right" "_law_right" (defArgs s__law_right) (defBody s__law_right) (defScope s__law_right) [] [] (He.ga K "_law_right") fd) : FnOkG P w K mg base (L2.CX P w) 11 (He.ga K "_law_right") fd ["bag"] (FnSp P w K [((He.cT K ("_law_right", none)).2, "_law_right.<locals>.<lambda>")] 1 F__law_right) ∧ Binds K fd ["bag"] [] ∧ PySem.W.keepIn K (.ref (He.ga K "_law_right")) = true := by
  refine ⟨callG_of (k := 10) (N := n__law_right) (ps := ["bag"]) (b := b__law_right) (key := ("_law_right", none)) F sc__law_right fun A outer s H E gd hr => ?_, F.bindsN fun _ _ _ _ _ _ us hl => match us, hl with | [_], _ => rfl, F.kp⟩
  have lv : Lv (cxOf (L2.CX P w) P w K mg base n__law_right "_law_right" (defScope s__law_right) (He.fAd K ("_law_right", none)) (.ref (He.codeOf K ("_law_right", none))) A outer s H E) E := passes_call (takes_of rfl rfl rfl rfl) fun _ _ _ _ h => h
  have hgd : (A.deeper (PyProof.Rows.envOfC "_law_right" (defScope s__law_right) s.heap.objs.size (He.fAd K ("_law_right", none)) (.ref (He.codeOf K ("_law_right", none))))).guards = some [] := gd
  have hf := T.hf
  have c__law_choose := ok__law_choose (P := P) (w := w) (base := base) T
  have c__law_pull := ok__law_pull (P := P) (w := w) (base := base) T
  have c_shows_slides := ok_shows_slides (P := P) (w := w) (base := base) T
  have c_count_stands := ok_count_stands (P := P) (w := w) (base := base) T
  have c_slides_paper := ok_slides_paper (P := P) (w := w) (base := base) T
  have c_least_slides := ok_least_slides (P := P) (w := w) (base := base) T
  have c_slide := ok_slide (P := P) (w := w) (base := base) T
  have c_slid := ok_slid (P := P) (w := w) (base := base) T
  have c_sign := ok_sign (P := P) (w := w) (base := base) T
  have c_round_things := ok_round_things (P := P) (w := w) (base := base) T
  exact (pss_consE (t_set sc__law_right.nd (by kernel_rfl) (pe_lstE (t_cons (t_k rfl) (t_cons (t_k rfl) (t_cons (pe_tupE pa_nl) (t_cons (pe_lstE (t_cons (t_k rfl) (t_cons (pe_tupE (t_cons (pe_tupE (t_cons (t_k rfl) (t_cons (t_k rfl) pa_nl rfl) rfl)) pa_nl rfl)) pa_nl rfl) rfl)) (t_cons (pe_tupE (t_cons (t_k rfl) (t_cons (pe_tupE pa_nl) pa_nl rfl) rfl)) (t_cons (pe_tupE (t_cons (t_k rfl) (t_cons (pe_tupE pa_nl) pa_nl rfl) rfl)) (t_cons (pe_tupE (t_cons (t_k rfl) (t_cons (pe_lstE (t_cons (pe_tupE (t_cons (t_k rfl) (t_cons (t_k rfl) pa_nl rfl) rfl)) pa_nl rfl)) pa_nl rfl) rfl)) (t_cons (pe_tupE (t_cons (t_k rfl) (t_cons (pe_tupE (t_cons (pe_tupE (t_cons (t_k rfl) (t_cons (t_k rfl) pa_nl rfl) rfl)) pa_nl rfl)) pa_nl rfl) rfl)) (t_cons (pe_tupE (t_cons (t_k rfl) (t_cons (pe_tupE (t_cons (pe_tupE (t_cons (t_k rfl) (t_cons (t_k rfl) pa_nl rfl) rfl)) pa_nl rfl)) pa_nl rfl) rfl)) (t_cons (pe_tupE (t_cons (t_k rfl) (t_cons (pe_tupE pa_nl) pa_nl rfl) rfl)) (t_cons (pe_tupE (t_cons (t_k rfl) (t_cons (pe_tupE (t_cons (pe_tupE (t_cons (t_k rfl) (t_cons (t_k rfl) (t_cons (t_k rfl) pa_nl rfl) rfl) rfl)) pa_nl rfl)) pa_nl rfl) rfl)) (t_cons pe_dict0E (t_cons (pe_tupE (t_cons (t_k rfl) pa_nl rfl)) (t_cons (pe_tupE (t_cons (t_k rfl) (t_cons (pe_tupE (t_cons (pe_tupE (t_cons (t_k rfl) (t_cons (t_k rfl) pa_nl rfl) rfl)) pa_nl rfl)) pa_nl rfl) rfl)) pa_nl rfl) rfl) rfl) rfl) rfl) rfl) rfl) rfl) rfl) rfl) rfl) rfl) rfl) rfl)) (by kernel_rfl)) (pss_consE (t_set sc__law_right.nd (by kernel_rfl) (t_call (c__law_choose.mono (by decide)) hr (by kernel_rfl) lv (t_cons (t_v (by kernel_rfl)) (t_cons (t_op2 op_addD ops_add (t_v (by kernel_rfl)) (pe_lstE (t_cons (pe_tupE (t_cons (t_k rfl) (t_cons (pe_tupE pa_nl) pa_nl rfl) rfl)) (t_cons (pe_tupE (t_cons (t_k rfl) (t_cons (pe_tupE pa_nl) pa_nl rfl) rfl)) (t_cons (pe_tupE (t_cons (t_k rfl) (t_cons (pe_tupE (t_cons (pe_tupE (t_cons (t_k rfl) (t_cons (t_k rfl) pa_nl rfl) rfl)) (t_cons (pe_tupE (t_cons (t_k rfl) (t_cons (t_k rfl) pa_nl rfl) rfl)) pa_nl rfl) rfl)) pa_nl rfl) rfl)) (t_cons (pe_tupE (t_cons (t_k rfl) (t_cons (pe_tupE (t_cons (pe_tupE (t_cons (t_k rfl) (t_cons (t_k rfl) pa_nl rfl) rfl)) (t_cons (pe_tupE (t_cons (t_k rfl) (t_cons (t_k rfl) pa_nl rfl) rfl)) pa_nl rfl) rfl)) pa_nl rfl) rfl)) (t_cons (pe_tupE (t_cons (t_k rfl) (t_cons (pe_tupE (t_cons (pe_tupE (t_cons (t_k rfl) (t_cons (t_k rfl) pa_nl rfl) rfl)) (t_cons (pe_tupE (t_cons (t_k rfl) (t_cons (t_k rfl) pa_nl rfl) rfl)) (t_cons (pe_tupE (t_cons (t_k rfl) (t_cons (t_k rfl) pa_nl rfl) rfl)) (t_cons (pe_tupE (t_cons (t_k rfl) (t_cons (t_k rfl) pa_nl rfl) rfl)) (t_cons (pe_tupE (t_cons (t_k rfl) (t_cons (t_k rfl) pa_nl rfl) rfl)) (t_cons (pe_tupE (t_cons (t_k rfl) (t_cons (t_k rfl) pa_nl rfl) rfl)) pa_nl rfl) rfl) rfl) rfl) rfl) rfl)) pa_nl rfl) rfl)) (t_cons (pe_tupE (t_cons (t_k rfl) (t_cons (pe_tupE pa_nl) pa_nl rfl) rfl)) pa_nl rfl) rfl) rfl) rfl) rfl) rfl))) pa_nl rfl) rfl) rfl) (by kernel_rfl)) (pss_consE (t_set sc__law_right.nd (by kernel_rfl) (t_op2 op_addD ops_add (t_k rfl) (t_call (c__law_pull.mono (by decide)) hr (by kernel_rfl) lv (t_cons (t_v (by kernel_rfl)) (t_cons (t_k rfl) pa_nl rfl) rfl) rfl)) (by kernel_rfl)) (pss_consE (t_set sc__law_right.nd (by kernel_rfl) (pe_tupE (t_cons (t_v (by kernel_rfl)) (t_cons (t_bty hf call_tuple_of ops_tuple (by simp [free]) PyProof.Rows.Boot.«tuple» (by decide) (by kernel_rfl) (t_cons (t_blt hf (call_sortedA rfl (u64 hr)) ops_sortedA (by simp [free]) PyProof.Rows.Boot.«sorted» (by decide) (by kernel_rfl) (t_cons (t_op2 op_addD ops_add (pe_lcE (own := [("at", 12)]) rfl sc__law_right.nd (t_rng1 hf (by simp [free]) (by kernel_rfl) (t_cons (t_op2 op_sub ops_sub (t_v (by kernel_rfl)) (t_k rfl)) pa_nl rfl) rfl) (blkOk_by (by kernel_rfl)) (fun s H C cl fp => (t_gn sc__law_right.nd (by kernel_rfl))) (fun s H C cl fp => pts_nilE) (fun s H C cl fp => (pe_tupE (t_cons (t_v (by kernel_rfl)) (t_cons (t_op2 op_addD ops_add (t_v (by kernel_rfl)) (t_k rfl)) pa_nl rfl) rfl))) (fun _ => rfl) (bd_name 12) (by decide)) (pe_lstE (t_cons (pe_tupE (t_cons (t_k rfl) (t_cons (t_op2 op_sub ops_sub (t_v (by kernel_rfl)) (t_k rfl)) pa_nl rfl) rfl)) pa_nl rfl))) pa_nl rfl) rfl) pa_nl rfl) rfl) pa_nl rfl) rfl)) (by kernel_rfl)) (pss_consE (t_set sc__law_right.nd (by kernel_rfl) (t_call (c__law_choose.mono (by decide)) hr (by kernel_rfl) lv (t_cons (t_v (by kernel_rfl)) (t_cons (pe_lstE (t_cons (t_k rfl) (t_cons (t_k rfl) (t_cons (pe_tupE pa_nl) (t_cons (pe_lstE (t_cons (t_k rfl) (t_cons (t_k rfl) (t_cons (t_k rfl) pa_nl rfl) rfl) rfl)) (t_cons (pe_tupE (t_cons (t_k rfl) (t_cons (t_k rfl) pa_nl rfl) rfl)) (t_cons (pe_tupE (t_cons (t_k rfl) (t_cons (t_k rfl) (t_cons (t_k rfl) pa_nl rfl) rfl) rfl)) (t_cons (pe_tupE (t_cons (t_k rfl) (t_cons (t_k rfl) (t_cons (t_k rfl) pa_nl rfl) rfl) rfl)) (t_cons (pe_tupE (t_cons (t_k rfl) (t_cons (t_k rfl) (t_cons (t_k rfl) pa_nl rfl) rfl) rfl)) (t_cons (pe_tupE (t_cons (t_k rfl) (t_cons (t_k rfl) (t_cons (t_k rfl) pa_nl rfl) rfl) rfl)) (t_cons (pe_tupE (t_cons (t_k rfl) (t_cons (t_k rfl) (t_cons (t_k rfl) pa_nl rfl) rfl) rfl)) (t_cons (pe_tupE (t_cons (t_k rfl) (t_cons (t_k rfl) (t_cons (t_k rfl) pa_nl rfl) rfl) rfl)) (t_cons (pe_tupE (t_cons (t_k rfl) (t_cons (t_k rfl) (t_cons (t_k rfl) pa_nl rfl) rfl) rfl)) (t_cons (t_k rfl) (t_cons pe_dict0E (t_cons (pe_tupE (t_cons (t_k rfl) (t_cons (t_k rfl) (t_cons (t_k rfl) pa_nl rfl) rfl) rfl)) (t_cons (pe_tupE (t_cons (t_k rfl) (t_cons (t_k rfl) (t_cons pe_dict0E pa_nl rfl) rfl) rfl)) pa_nl rfl) rfl) rfl) rfl) rfl) rfl) rfl) rfl) rfl) rfl) rfl) rfl) rfl) rfl) rfl) rfl)) pa_nl rfl) rfl) rfl) (by kernel_rfl)) (pss_consE (t_set sc__law_right.nd (by kernel_rfl) (t_call (c__law_choose.mono (by decide)) hr (by kernel_rfl) lv (t_cons (t_v (by kernel_rfl)) (t_cons (pe_lstE (t_cons (t_k rfl) (t_cons (t_k rfl) (t_cons (t_k rfl) (t_cons (pe_negE (t_k rfl)) (t_cons (t_k rfl) (t_cons (t_k rfl) (t_cons (pe_tupE (t_cons (t_k rfl) pa_nl rfl)) (t_cons (pe_lstE pa_nl) (t_cons pe_dict0E (t_cons (t_op2 op_powW ops_pow (t_k rfl) (t_k rfl)) pa_nl rfl) rfl) rfl) rfl) rfl) rfl) rfl) rfl) rfl) rfl)) pa_nl rfl) rfl) rfl) (by kernel_rfl)) (pss_consE (ps_parTE rfl sc__law_right.nd (t_nm (by kernel_rfl) (t_nm (by kernel_rfl) (t_nm (by kernel_rfl) (t_nm (by kernel_rfl) .nil)))) (pan_cons (pe_tupE (t_cons (t_k rfl) (t_cons (pe_tupE (t_cons (pe_tupE (t_cons (t_k rfl) (t_cons (t_k rfl) pa_nl rfl) rfl)) (t_cons (pe_tupE (t_cons (t_k rfl) (t_cons (t_k rfl) pa_nl rfl) rfl)) (t_cons (pe_tupE (t_cons (t_k rfl) (t_cons (t_k rfl) pa_nl rfl) rfl)) pa_nl rfl) rfl) rfl)) pa_nl rfl) rfl)) (pan_cons (pe_tupE (t_cons (t_k rfl) (t_cons (t_k rfl) (t_cons (t_k rfl) pa_nl rfl) rfl) rfl)) (pan_cons (pe_lstE pa_nl) (pan_cons (pe_lstE pa_nl) pan_nil rfl) rfl) rfl) rfl) (by decide) rfl rfl rfl (by kernel_rfl) (by kernel_rfl) rfl) (pss_consE (t_for (passes_of rfl) rfl (pi_any (pe_tupE (t_cons (pe_tupE (t_cons (t_v (by kernel_rfl)) (t_cons (t_k rfl) pa_nl rfl) rfl)) (t_cons (pe_tupE (t_cons (t_v (by kernel_rfl)) (t_cons (t_k rfl) pa_nl rfl) rfl)) (t_cons (pe_tupE (t_cons (t_v (by kernel_rfl)) (t_cons (t_k rfl) pa_nl rfl) rfl)) pa_nl rfl) rfl) rfl))) (t_gt rfl (pgs_consE (t_gn sc__law_right.nd (by kernel_rfl)) (pgs_consE (t_gn sc__law_right.nd (by kernel_rfl)) pgs_nilE rfl) rfl) rfl rfl) (pss_consE (ps_exprE (t_append (by kernel_rfl) (t_cons (lam__law_met T TB (hq := by kernel_rfl) rfl hgd hr (by kernel_rfl) (by kernel_rfl) rfl (fun _ _ _ _ _ => rfl) (fun A outer s H E f c hr => (t_call (c_slide.mono (by decide)) hr (by kernel_rfl) (passes_call (takes_of rfl rfl rfl rfl) fun _ _ _ _ h => h) (t_cons (t_v (by kernel_rfl)) (t_cons (t_v (by kernel_rfl)) (t_cons (t_v (by kernel_rfl)) pa_nl rfl) rfl) rfl) rfl))) pa_nl rfl) rfl rfl) (by kernel_rfl)) (pss_consE (ps_exprE (t_append (by kernel_rfl) (t_cons (lam__law_met T TB (hq := by kernel_rfl) rfl hgd hr (by kernel_rfl) (by kernel_rfl) rfl (fun _ _ _ _ _ => rfl) (fun A outer s H E f c hr => (t_call (c_slid.mono (by decide)) hr (by kernel_rfl) (passes_call (takes_of rfl rfl rfl rfl) fun _ _ _ _ h => h) (t_cons (t_v (by kernel_rfl)) (t_cons (t_v (by kernel_rfl)) (t_cons (t_v (by kernel_rfl)) pa_nl rfl) rfl) rfl) rfl))) pa_nl rfl) rfl rfl) (by kernel_rfl)) (pss_consE (ps_exprE (t_append (by kernel_rfl) (t_cons (lam__law_met T TB (hq := by kernel_rfl) rfl hgd hr (by kernel_rfl) (by kernel_rfl) rfl (fun _ _ _ _ _ => rfl) (fun A outer s H E f c hr => (t_call (c_slides_paper.mono (by decide)) hr (by kernel_rfl) (passes_call (takes_of rfl rfl rfl rfl) fun _ _ _ _ h => h) (t_cons (t_v (by kernel_rfl)) (t_cons (t_v (by kernel_rfl)) (t_cons (t_v (by kernel_rfl)) pa_nl rfl) rfl) rfl) rfl))) pa_nl rfl) rfl rfl) (by kernel_rfl)) (pss_consE (ps_exprE (t_append (by kernel_rfl) (t_cons (lam__law_met T TB (hq := by kernel_rfl) rfl hgd hr (by kernel_rfl) (by kernel_rfl) rfl (fun _ _ _ _ _ => rfl) (fun A outer s H E f c hr => (t_call (c_shows_slides.mono (by decide)) hr (by kernel_rfl) (passes_call (takes_of rfl rfl rfl rfl) fun _ _ _ _ h => h) (t_cons (t_v (by kernel_rfl)) (t_cons (t_v (by kernel_rfl)) (t_cons (t_v (by kernel_rfl)) (t_cons (t_k rfl) pa_nl rfl) rfl) rfl) rfl) rfl))) pa_nl rfl) rfl rfl) (by kernel_rfl)) (pss_consE (ps_exprE (t_append (by kernel_rfl) (t_cons (lam__law_met T TB (hq := by kernel_rfl) rfl hgd hr (by kernel_rfl) (by kernel_rfl) rfl (fun _ _ _ _ _ => rfl) (fun A outer s H E f c hr => (t_call (c_least_slides.mono (by decide)) hr (by kernel_rfl) (passes_call (takes_of rfl rfl rfl rfl) fun _ _ _ _ h => h) (t_cons (t_v (by kernel_rfl)) (t_cons (t_v (by kernel_rfl)) (t_cons (t_v (by kernel_rfl)) pa_nl rfl) rfl) rfl) rfl))) pa_nl rfl) rfl rfl) (by kernel_rfl)) (pss_consE (ps_exprE (t_append (by kernel_rfl) (t_cons (lam__law_met T TB (hq := by kernel_rfl) rfl hgd hr (by kernel_rfl) (by kernel_rfl) rfl (fun _ _ _ _ _ => rfl) (fun A outer s H E f c hr => (t_call (c_sign.mono (by decide)) hr (by kernel_rfl) (passes_call (takes_of rfl rfl rfl rfl) fun _ _ _ _ h => h) (t_cons (t_v (by kernel_rfl)) (t_cons (t_v (by kernel_rfl)) pa_nl rfl) rfl) rfl))) pa_nl rfl) rfl rfl) (by kernel_rfl)) (pss_consE (ps_exprE (t_append (by kernel_rfl) (t_cons (lam__law_met T TB (hq := by kernel_rfl) rfl hgd hr (by kernel_rfl) (by kernel_rfl) rfl (fun _ _ _ _ _ => rfl) (fun A outer s H E f c hr => (t_call (c_round_things.mono (by decide)) hr (by kernel_rfl) (passes_call (takes_of rfl rfl rfl rfl) fun _ _ _ _ h => h) (t_cons (t_v (by kernel_rfl)) (t_cons (t_v (by kernel_rfl)) pa_nl rfl) rfl) rfl))) pa_nl rfl) rfl rfl) (by kernel_rfl)) (pss_consE (t_set sc__law_right.nd (by kernel_rfl) (t_op2 op_addD ops_add (t_v (by kernel_rfl)) (t_op2 op_mulD ops_mul (pe_lstE (t_cons (t_v (by kernel_rfl)) pa_nl rfl)) (t_k rfl))) (by kernel_rfl)) pss_nilE)))))))) (fun _ => rfl)) (pss_consE (ps_exprE (t_append (by kernel_rfl) (t_cons (lam__law_met T TB (hq := by kernel_rfl) rfl hgd hr (by kernel_rfl) (by kernel_rfl) rfl (fun _ _ _ _ _ => rfl) (fun A outer s H E f c hr => (t_call (c_count_stands.mono (by decide)) hr (by kernel_rfl) (passes_call (takes_of rfl rfl rfl rfl) fun _ _ _ _ h => h) (t_cons (t_v (by kernel_rfl)) pa_nl rfl) rfl))) pa_nl rfl) rfl rfl) (by kernel_rfl)) (pss_consE (ps_exprE (t_append (by kernel_rfl) (t_cons (lam__law_met T TB (hq := by kernel_rfl) rfl hgd hr (by kernel_rfl) (by kernel_rfl) rfl (fun _ _ _ _ _ => rfl) (fun A outer s H E f c hr => (t_call (c_count_stands.mono (by decide)) hr (by kernel_rfl) (passes_call (takes_of rfl rfl rfl rfl) fun _ _ _ _ h => h) (t_cons (t_v (by kernel_rfl)) pa_nl rfl) rfl))) pa_nl rfl) rfl rfl) (by kernel_rfl)) (pss_consE (ps_exprE (t_append (by kernel_rfl) (t_cons (lam__law_met T TB (hq := by kernel_rfl) rfl hgd hr (by kernel_rfl) (by kernel_rfl) rfl (fun _ _ _ _ _ => rfl) (fun A outer s H E f c hr => (t_call (c_slides_paper.mono (by decide)) hr (by kernel_rfl) (passes_call (takes_of rfl rfl rfl rfl) fun _ _ _ _ h => h) (t_cons (t_v (by kernel_rfl)) (t_cons (t_v (by kernel_rfl)) (t_cons (t_v (by kernel_rfl)) pa_nl rfl) rfl) rfl) rfl))) pa_nl rfl) rfl rfl) (by kernel_rfl)) (pss_consE (ps_exprE (t_append (by kernel_rfl) (t_cons (lam__law_met T TB (hq := by kernel_rfl) rfl hgd hr (by kernel_rfl) (by kernel_rfl) rfl (fun _ _ _ _ _ => rfl) (fun A outer s H E f c hr => (t_call (c_least_slides.mono (by decide)) hr (by kernel_rfl) (passes_call (takes_of rfl rfl rfl rfl) fun _ _ _ _ h => h) (t_cons (t_v (by kernel_rfl)) (t_cons (t_v (by kernel_rfl)) (t_cons (t_v (by kernel_rfl)) pa_nl rfl) rfl) rfl) rfl))) pa_nl rfl) rfl rfl) (by kernel_rfl)) (pss_consE (ps_exprE (t_append (by kernel_rfl) (t_cons (lam__law_met T TB (hq := by kernel_rfl) rfl hgd hr (by kernel_rfl) (by kernel_rfl) rfl (fun _ _ _ _ _ => rfl) (fun A outer s H E f c hr => (t_call (c_slide.mono (by decide)) hr (by kernel_rfl) (passes_call (takes_of rfl rfl rfl rfl) fun _ _ _ _ h => h) (t_cons (t_v (by kernel_rfl)) (t_cons (t_v (by kernel_rfl)) (t_cons (t_v (by kernel_rfl)) pa_nl rfl) rfl) rfl) rfl))) pa_nl rfl) rfl rfl) (by kernel_rfl)) (pss_consE (ps_exprE (t_append (by kernel_rfl) (t_cons (lam__law_met T TB (hq := by kernel_rfl) rfl hgd hr (by kernel_rfl) (by kernel_rfl) rfl (fun _ _ _ _ _ => rfl) (fun A outer s H E f c hr => (t_call (c_slid.mono (by decide)) hr (by kernel_rfl) (passes_call (takes_of rfl rfl rfl rfl) fun _ _ _ _ h => h) (t_cons (t_v (by kernel_rfl)) (t_cons (t_v (by kernel_rfl)) (t_cons (pe_tupE (t_cons (t_k rfl) (t_cons (t_k rfl) (t_cons (t_v (by kernel_rfl)) pa_nl rfl) rfl) rfl)) pa_nl rfl) rfl) rfl) rfl))) pa_nl rfl) rfl rfl) (by kernel_rfl)) (pss_consE (ps_exprE (t_append (by kernel_rfl) (t_cons (lam__law_met T TB (hq := by kernel_rfl) rfl hgd hr (by kernel_rfl) (by kernel_rfl) rfl (fun _ _ _ _ _ => rfl) (fun A outer s H E f c hr => (t_call (c_slid.mono (by decide)) hr (by kernel_rfl) (passes_call (takes_of rfl rfl rfl rfl) fun _ _ _ _ h => h) (t_cons (t_v (by kernel_rfl)) (t_cons (t_v (by kernel_rfl)) (t_cons (pe_lstE (t_cons (t_k rfl) (t_cons (t_k rfl) pa_nl rfl) rfl)) pa_nl rfl) rfl) rfl) rfl))) pa_nl rfl) rfl rfl) (by kernel_rfl)) (pss_consE (ps_exprE (t_append (by kernel_rfl) (t_cons (lam__law_met T TB (hq := by kernel_rfl) rfl hgd hr (by kernel_rfl) (by kernel_rfl) rfl (fun _ _ _ _ _ => rfl) (fun A outer s H E f c hr => (t_call (c_slid.mono (by decide)) hr (by kernel_rfl) (passes_call (takes_of rfl rfl rfl rfl) fun _ _ _ _ h => h) (t_cons (t_v (by kernel_rfl)) (t_cons (t_v (by kernel_rfl)) (t_cons (pe_tupE (t_cons (t_k rfl) pa_nl rfl)) pa_nl rfl) rfl) rfl) rfl))) pa_nl rfl) rfl rfl) (by kernel_rfl)) (pss_consE (ps_exprE (t_append (by kernel_rfl) (t_cons (lam__law_met T TB (hq := by kernel_rfl) rfl hgd hr (by kernel_rfl) (by kernel_rfl) rfl (fun _ _ _ _ _ => rfl) (fun A outer s H E f c hr => (t_call (c_slid.mono (by decide)) hr (by kernel_rfl) (passes_call (takes_of rfl rfl rfl rfl) fun _ _ _ _ h => h) (t_cons (t_v (by kernel_rfl)) (t_cons (t_v (by kernel_rfl)) (t_cons (pe_tupE (t_cons (t_k rfl) (t_cons (t_k rfl) pa_nl rfl) rfl)) pa_nl rfl) rfl) rfl) rfl))) pa_nl rfl) rfl rfl) (by kernel_rfl)) (pss_consE (ps_ifE (t_cmpT (op_neD (u64 hr)) ops_ne (t_v (by kernel_rfl)) (t_op2 op_addD ops_add (t_v (by kernel_rfl)) (pe_lstE (t_cons (t_k rfl) (t_cons (t_k rfl) (t_cons (t_k rfl) (t_cons (t_k rfl) (t_cons (pe_tupE (t_cons (t_k rfl) (t_cons (t_blt hf (call_reprE hgd (u64 hr)) ops_repr (by simp [free]) PyProof.Rows.Boot.«repr» (by decide) (by kernel_rfl) (t_cons (t_v (by kernel_rfl)) pa_nl rfl) rfl) pa_nl rfl) rfl)) (t_cons (pe_tupE (t_cons (t_k rfl) (t_cons (t_k rfl) pa_nl rfl) rfl)) (t_cons (pe_tupE (t_cons (t_k rfl) (t_cons (t_k rfl) pa_nl rfl) rfl)) (t_cons (pe_tupE (t_cons (t_k rfl) (t_cons (t_k rfl) pa_nl rfl) rfl)) (t_cons (pe_tupE (t_cons (t_k rfl) (t_cons (t_k rfl) pa_nl rfl) rfl)) pa_nl rfl) rfl) rfl) rfl) rfl) rfl) rfl) rfl) rfl))) (by kernel_rfl)) (pss_consE (ps_retE (t_k rfl)) pss_nilE) pss_nilE) (pss_consE (t_for (passes_of rfl) rfl (pi_any (pe_lstE (t_cons (t_v (by kernel_rfl)) (t_cons (t_v (by kernel_rfl)) (t_cons (t_v (by kernel_rfl)) (t_cons (t_v (by kernel_rfl)) (t_cons pe_dict0E (t_cons (pe_lstE (t_cons (pe_lstE pa_nl) pa_nl rfl)) (t_cons (pe_dict1E (u64 hr) (t_k rfl) (t_k rfl)) (t_cons (pe_tupE (t_cons (t_k rfl) (t_cons pe_dict0E pa_nl rfl) rfl)) (t_cons (pe_tupE (t_cons (t_k rfl) (t_cons (pe_tupE (t_cons pe_dict0E pa_nl rfl)) pa_nl rfl) rfl)) (t_cons (pe_tupE (t_cons (t_k rfl) (t_cons (pe_tupE (t_cons (t_k rfl) pa_nl rfl)) pa_nl rfl) rfl)) (t_cons (pe_tupE (t_cons (t_k rfl) (t_cons pe_dict0E (t_cons (pe_lstE pa_nl) pa_nl rfl) rfl) rfl)) (t_cons (pe_tupE (t_cons (t_k rfl) (t_cons (pe_tupE (t_cons pe_dict0E (t_cons (t_k rfl) pa_nl rfl) rfl)) (t_cons (pe_tupE (t_cons (t_k rfl) (t_cons (t_k rfl) pa_nl rfl) rfl)) pa_nl rfl) rfl) rfl)) (t_cons (pe_tupE (t_cons (t_k rfl) (t_cons pe_dict0E (t_cons (t_k rfl) pa_nl rfl) rfl) rfl)) (t_cons (pe_tupE (t_cons (t_k rfl) (t_cons (pe_lstE pa_nl) (t_cons pe_dict0E pa_nl rfl) rfl) rfl)) (t_cons (pe_tupE (t_cons pe_dict0E (t_cons (t_k rfl) pa_nl rfl) rfl)) pa_nl rfl) rfl) rfl) rfl) rfl) rfl) rfl) rfl) rfl) rfl) rfl) rfl) rfl) rfl) rfl))) (t_gn sc__law_right.nd (by kernel_rfl)) (pss_consE (ps_ifE (t_cmpT op_isNotD ops_isnot (t_call (c_shows_slides.mono (by decide)) hr (by kernel_rfl) lv (t_cons (t_v (by kernel_rfl)) (t_cons (t_v (by kernel_rfl)) (t_cons (pe_tupE (t_cons (t_k rfl) (t_cons (t_k rfl) (t_cons (t_k rfl) pa_nl rfl) rfl) rfl)) (t_cons (t_v (by kernel_rfl)) pa_nl rfl) rfl) rfl) rfl) rfl) (t_k rfl) (by kernel_rfl)) (pss_consE (ps_retE (t_k rfl)) pss_nilE) pss_nilE) pss_nilE) (fun _ => rfl)) (pss_consE (ps_retE (t_k rfl)) pss_nilE))))))))))))))))))))
def n_law : List Str := ["script", "spot", "bag"]
theorem sc_law : FnScope n_law ["script"] (defScope s_law) := ⟨rfl, rfl, rfl, by decide +kernel, rfl, by decide +kernel, by decide +kernel⟩
def b_law : M Fw := (evSeq (evFor (itRng1 (evCons (evOp opMax2 (evCons (evCon (.int 1)) (evCons (evOp opMin2 (evCons (evCon (.int 4)) (evCons (evOp opLenA (evCons (evVar 0) evNil)) evNil))) evNil))) evNil)) (gvName 1) (evSeq (evSet 2 (evCall F__law_bag (evCons (evVar 0) (evCons (evVar 1) evNil)))) (evSeq (evIf (evOrT (evNotT (evB (evCall F__law_right (evCons (evVar 2) evNil)))) (evNotT (evB (evCall F__law_right (evCons (evVar 2) evNil))))) (evSeq (evRet (evCon (.bool false))) evNext) evNext) evNext))) (evSeq (evRet (evAnd (evOp opEqA (evCons (evCall F_slid (evCons (evTup (evCons (evCon (.int 2)) (evCons (evTup (evCons (evTup (evCons (evCon (.int 0)) (evCons (evCon (.int 1)) evNil))) evNil)) evNil))) (evCons (evTup (evCons (evCon .none) (evCons (evCon (.int 1)) evNil))) (evCons (evTup (evCons (evCon (.int 1)) (evCons (evCon (.int 0)) (evCons (evCon (.int 1)) evNil)))) evNil)))) (evCons (evTup (evCons (evCon (.int 1)) (evCons (evCon .none) evNil))) evNil))) (evOp opEqA (evCons (evCall F_sign (evCons (evTup (evCons (evCon (.int 2)) (evCons (evTup (evCons (evTup (evCons (evCon (.int 0)) (evCons (evCon (.int 1)) evNil))) evNil)) evNil))) (evCons (evTup (evCons (evCon (.int 1)) (evCons (evCon .none) evNil))) evNil))) (evCons (evCon (.int 0)) evNil))))) evNext))
def F_law : Fn := evFn 1 3 b_law
theorem ok_law {P : Program} {w : World} {K : PySem.W.Frag} {mg : Str → Option Value} {base : Heap} (T : HD K mg) (TB : LamX.TabB base mg (He.cT K ("_law_right", none)).1 (He.cT K ("_law_right", none)).2) {fd : FuncData} (F : FunD K "law" "law" (defArgs s_law) (defBody s_law) (defScope s_law) [] [] (He.ga K "law") fd) : FnOkG P w K mg base (L2.CX P w) 12 (He.ga K "law") fd ["script"] (FnSp P w K [((He.cT K ("_law_right", none)).2, "_law_right.<locals>.<lambda>")] 1 F_law) ∧ Binds K fd ["script"] [] ∧ PySem.W.keepIn K (.ref (He.ga K "law")) = true := by
  refine ⟨callG_of (k := 11) (N := n_law) (ps := ["script"]) (b := b_law) (key := ("law", none)) F sc_law fun A outer s H E gd hr => ?_, F.bindsN fun _ _ _ _ _ _ us hl => match us, hl with | [_], _ => rfl, F.kp⟩
  have lv : Lv (cxOf (L2.CX P w) P w K mg base n_law "law" (defScope s_law) (He.fAd K ("law", none)) (.ref (He.codeOf K ("law", none))) A outer s H E) E := passes_call (takes_of rfl rfl rfl rfl) fun _ _ _ _ h => h
  have hgd : (A.deeper (PyProof.Rows.envOfC "law" (defScope s_law) s.heap.objs.size (He.fAd K ("law", none)) (.ref (He.codeOf K ("law", none))))).guards = some [] := gd
  obtain ⟨fd__law_right, FF__law_right⟩ := T.def__law_right.ex
  obtain ⟨g__law_right, bi__law_right, kp__law_right⟩ := ok__law_right (P := P) (w := w) T TB FF__law_right
  have hf := T.hf
  have c__law_bag := ok__law_bag (P := P) (w := w) (base := base) T
  have c_slid := ok_slid (P := P) (w := w) (base := base) T
  have c_sign := ok_sign (P := P) (w := w) (base := base) T
  exact (pss_consE (t_for (passes_of rfl) rfl (t_rng1 hf (by simp [free]) (by kernel_rfl) (t_cons (t_blt hf (call_max2 rfl) ops_max2 (by simp [free]) PyProof.Rows.Boot.«max» (by decide) (by kernel_rfl) (t_cons (t_k rfl) (t_cons (t_blt hf (call_min2 rfl) ops_min2 (by simp [free]) PyProof.Rows.Boot.«min» (by decide) (by kernel_rfl) (t_cons (t_k rfl) (t_cons (t_blt hf call_lenA ops_lenA (by simp [free]) PyProof.Rows.Boot.«len» (by decide) (by kernel_rfl) (t_cons (t_v (by kernel_rfl)) pa_nl rfl) rfl) pa_nl rfl) rfl) rfl) pa_nl rfl) rfl) rfl) pa_nl rfl) rfl) (t_gn sc_law.nd (by kernel_rfl)) (pss_consE (t_set sc_law.nd (by kernel_rfl) (t_call (c__law_bag.mono (by decide)) hr (by kernel_rfl) lv (t_cons (t_v (by kernel_rfl)) (t_cons (t_v (by kernel_rfl)) pa_nl rfl) rfl) rfl) (by kernel_rfl)) (pss_consE (ps_ifE (PW.pt (pw_orE (pt_notE (pt_valE (t_callG (g__law_right.mono (by decide)) hgd hr (by kernel_rfl) T.def__law_right.g kp__law_right bi__law_right lv (t_cons (t_v (by kernel_rfl)) pa_nl rfl) (fun _ _ h => evFn_len h) rfl) (fun _ => rfl))) (pw_or1 (pt_notE (pt_valE (t_callG (g__law_right.mono (by decide)) hgd hr (by kernel_rfl) T.def__law_right.g kp__law_right bi__law_right lv (t_cons (t_v (by kernel_rfl)) pa_nl rfl) (fun _ _ h => evFn_len h) rfl) (fun _ => rfl)))))) (pss_consE (ps_retE (t_k rfl)) pss_nilE) pss_nilE) pss_nilE)) (fun _ => rfl)) (pss_consE (ps_retE (pe_andE (t_cmp (op_eqA (u64 hr)) ops_eqNil (t_call (c_slid.mono (by decide)) hr (by kernel_rfl) lv (t_cons (pe_tupE (t_cons (t_k rfl) (t_cons (pe_tupE (t_cons (pe_tupE (t_cons (t_k rfl) (t_cons (t_k rfl) pa_nl rfl) rfl)) pa_nl rfl)) pa_nl rfl) rfl)) (t_cons (pe_tupE (t_cons (t_k rfl) (t_cons (t_k rfl) pa_nl rfl) rfl)) (t_cons (pe_tupE (t_cons (t_k rfl) (t_cons (t_k rfl) (t_cons (t_k rfl) pa_nl rfl) rfl) rfl)) pa_nl rfl) rfl) rfl) rfl) (pe_tupE (t_cons (t_k rfl) (t_cons (t_k rfl) pa_nl rfl) rfl)) (by kernel_rfl)) (pe_one (t_cmp (op_eqA (u64 hr)) ops_eqNil (t_call (c_sign.mono (by decide)) hr (by kernel_rfl) lv (t_cons (pe_tupE (t_cons (t_k rfl) (t_cons (pe_tupE (t_cons (pe_tupE (t_cons (t_k rfl) (t_cons (t_k rfl) pa_nl rfl) rfl)) pa_nl rfl)) pa_nl rfl) rfl)) (t_cons (pe_tupE (t_cons (t_k rfl) (t_cons (t_k rfl) pa_nl rfl) rfl)) pa_nl rfl) rfl) rfl) (t_k rfl) (by kernel_rfl))))) pss_nilE))
end K99
set_option maxRecDepth 100000
set_option maxHeartbeats 1000000
set_option linter.all false
/-! Iv: the draws of the laws: a row of three numbers, a number below a bound out of it. -/
namespace Iv
open PySem
theorem log_lt {i : Int} {n : Nat} (h : i.natAbs < 2 ^ n) (hn : 0 < n) : i.natAbs.log2 < n := by
  by_cases h0 : i.natAbs = 0
  · rw [h0]; simpa using hn
  · exact (Nat.log2_lt h0).mpr h
theorem mul_ok {i j : Int} (hi : i.natAbs < 2 ^ 4000) (hj : j.natAbs < 2 ^ 4000) : opMul [.int i, .int j] = some (.d (.int (i * j))) := by
  have h1 := log_lt hi (by decide)
  have h2 := log_lt hj (by decide)
  exact if_pos (by omega)
theorem cmp_int (i j : Int) : cmpOk (.int i) (.int j) = true := by kernel_rfl
theorem ix0 {a b c : PyData} : opIxA [.list [a, b, c], .int 0] = some (.d a) := by kernel_rfl
theorem ix1 {a b c : PyData} : opIxA [.list [a, b, c], .int 1] = some (.d b) := by kernel_rfl
theorem ix2 {a b c : PyData} : opIxA [.list [a, b, c], .int 2] = some (.d c) := by kernel_rfl
theorem st0 {a b c d : PyData} : sAny (.l [a, b, c]) (.int 0) d = some (.l [d, b, c]) := by kernel_rfl
theorem st2 {a b c d : PyData} : sAny (.l [a, b, c]) (.int 2) d = some (.l [a, b, d]) := by kernel_rfl
/-- the def that draws a number -/
def bPull (k1 m1 k2 m2 k3 dv : Int) : M Fw := (evSeq (evIf (evB (evOp opGt (evCons (evOp opIxA (evCons (evVar 0) (evCons (evCon (.int 0)) evNil))) (evCons (evCon (.int 0)) evNil)))) (evSeq (evSet 4 (evOp opMod (evCons (evOp opInt (evCons (evOp opIxA (evCons (evVar 0) (evCons (evCon (.int 0)) evNil))) evNil)) (evCons (evVar 1) evNil)))) (evSeq (evStore 0 sAny (evCon (.int 0)) (evOp opDiv (evCons (evOp opIxA (evCons (evVar 0) (evCons (evCon (.int 0)) evNil))) (evCons (evVar 1) evNil)))) (evSeq (evRet (evVar 4)) evNext))) evNext) (evSeq (evStore 0 sAny (evCon (.int 2)) (evOp opAdd (evCons (evOp opIxA (evCons (evVar 0) (evCons (evCon (.int 2)) evNil))) (evCons (evCon (.int 1)) evNil)))) (evSeq (evSet 2 (evOp opMod (evCons (evOp opInt (evCons (evOp opAdd (evCons (evOp opIxA (evCons (evVar 0) (evCons (evCon (.int 1)) evNil))) (evCons (evOp opMul (evCons (evCon (.int k1)) (evCons (evOp opIxA (evCons (evVar 0) (evCons (evCon (.int 2)) evNil))) evNil))) evNil))) evNil)) (evCons (evCon (.int m1)) evNil)))) (evSeq (evSet 3 (evOp opAdd (evCons (evOp opMul (evCons (evOp opMod (evCons (evOp opInt (evCons (evOp opAdd (evCons (evOp opMul (evCons (evVar 2) (evCons (evVar 2) evNil))) (evCons (evOp opMul (evCons (evCon (.int k2)) (evCons (evOp opIxA (evCons (evVar 0) (evCons (evCon (.int 2)) evNil))) evNil))) evNil))) evNil)) (evCons (evCon (.int m2)) evNil))) (evCons (evCon (.int k3)) evNil))) (evCons (evVar 2) evNil)))) (evSeq (evRet (evOp opMod (evCons (evOp opInt (evCons (evOp opDiv (evCons (evVar 3) (evCons (evCon (.int dv)) evNil))) evNil)) (evCons (evVar 1) evNil)))) evNext)))))
def FPull (k1 m1 k2 m2 k3 dv : Int) : Fn := evFn 2 5 (bPull k1 m1 k2 m2 k3 dv)
/-- the row of the draws, with so many draws left -/
def Bag (k : Nat) (x : A) : Prop := ∃ a b : Int, ∃ c : Nat, c + k < 2 ^ 3000 ∧ x = .l [.int a, .int b, .int c]
theorem Bag.mono {k j : Nat} {x : A} (h : Bag k x) (hj : j ≤ k) : Bag j x := let ⟨a, b, c, h, e⟩ := h; ⟨a, b, c, by omega, e⟩
structure PullOk (k1 m1 k2 m2 k3 dv : Int) : Prop where
  k1 : k1.natAbs < 2 ^ 64
  k2 : k2.natAbs < 2 ^ 64
  k3 : k3.natAbs < 2 ^ 64
  m1 : 0 < m1 ∧ m1 < 2 ^ 64
  m2 : 0 < m2 ∧ m2 < 2 ^ 64
  dv : 0 < dv ∧ dv < 2 ^ 64
theorem p64 : (2 : Nat) ^ 64 ≤ 2 ^ 4000 := Nat.pow_le_pow_right (by decide) (by decide)
theorem pull_pos {k1 m1 k2 m2 k3 dv : Int} (a b c t : Int) (ht : 0 < t) (h1 : t < 2 ^ 64) (h : 0 < a) : FPull k1 m1 k2 m2 k3 dv [.l [.int a, .int b, .int c], .d (.int t)] = some (.ok (.d (.int (a % t)), [.l [.int (a / t), .int b, .int c], .d (.int t)])) := by
  have h1 : t.natAbs.log2 < 9000 := Nat.lt_trans (log_lt (n := 64) (by omega) (by decide)) (by decide)
  simp [FPull, evFn, startE, bPull, evSeq, evIf, evB, evOp, evCons, evVar, evCon, evNil, bnd, fz, evStore, evSet, evRet, evNext, opGt, opMod, opInt, opDiv, ht, h, h1, conts, cont, R.fz, A.isC, A.rd, isB, setA, canSet, slA, finA, cmp_int, ltD, ix0, ix1, ix2, st0, st2, datas]
theorem pull_neg {k1 m1 k2 m2 k3 dv : Int} (O : PullOk k1 m1 k2 m2 k3 dv) (a b : Int) (c : Nat) (t : Int) (ht : 0 < t) (h1 : t < 2 ^ 64) (h : ¬ 0 < a) (hc : c + 1 < 2 ^ 3000) : ∃ r, 0 ≤ r ∧ r < t ∧ FPull k1 m1 k2 m2 k3 dv [.l [.int a, .int b, .int c], .d (.int t)] = some (.ok (.d (.int r), [.l [.int a, .int b, .int (c + 1)], .d (.int t)])) := by
  have q := p64
  have q3 : (2 : Nat) ^ 3000 ≤ 2 ^ 4000 := Nat.pow_le_pow_right (by decide) (by decide)
  obtain ⟨o1, o2, o3, ⟨o4, o5⟩, ⟨o6, o7⟩, o8, o9⟩ := O
  have hc' : ((c : Int) + 1).natAbs < 2 ^ 4000 := by omega
  have n1 : ∀ x : Int, (x % m1).natAbs < 2 ^ 4000 := fun x => by have := Int.emod_nonneg x (show m1 ≠ 0 by omega); have := Int.emod_lt_of_pos x o4; omega
  have n2 : ∀ x : Int, (x % m2).natAbs < 2 ^ 4000 := fun x => by have := Int.emod_nonneg x (show m2 ≠ 0 by omega); have := Int.emod_lt_of_pos x o6; omega
  have e1 := mul_ok (Nat.lt_of_lt_of_le o1 q) hc'
  have e2 := fun x => mul_ok (n1 x) (n1 x)
  have e3 := mul_ok (Nat.lt_of_lt_of_le o2 q) hc'
  have e4 := fun x => mul_ok (n2 x) (Nat.lt_of_lt_of_le o3 q)
  have l4 : dv.natAbs.log2 < 9000 := Nat.lt_trans (log_lt (n := 64) (by omega) (by decide)) (by decide)
  let one := (b + k1 * (c + 1)) % m1
  refine ⟨(((one * one + k2 * (c + 1)) % m2 * k3 + one) / dv) % t, Int.emod_nonneg _ (by omega), Int.emod_lt_of_pos _ ht, ?_⟩
  simp [FPull, evFn, startE, bPull, evSeq, evIf, evB, evOp, evCons, evVar, evCon, evNil, bnd, fz, evStore, evSet, evRet, evNext, opGt, opMod, opInt, opDiv, opAdd, ht, h, o4, o6, o8, conts, cont, R.fz, A.isC, A.rd, isB, setA, canSet, slA, finA, cmp_int, ltD, ix0, ix1, ix2, st0, st2, datas, e1, e2, e3, e4, l4, one]
/-- a draw -/
theorem pull_ok {k1 m1 k2 m2 k3 dv : Int} (O : PullOk k1 m1 k2 m2 k3 dv) {k : Nat} {x : A} (hx : Bag (k + 1) x) (t : Nat) (ht : 0 < t) (h1 : t < 2 ^ 60) :
    ∃ (r : Nat) (x' : A), r < t ∧ Bag k x' ∧ FPull k1 m1 k2 m2 k3 dv [x, .d (.int (t : Nat))] = some (.ok (.d (.int (r : Nat)), [x', .d (.int (t : Nat))])) := by
  obtain ⟨a, b, c, hc, rfl⟩ := hx
  by_cases h : 0 < a
  · refine ⟨(a % (t : Int)).toNat, .l [.int (a / (t : Int)), .int b, .int c], ?_, ⟨_, _, c, by omega, rfl⟩, ?_⟩
    · have := Int.emod_nonneg a (show (t : Int) ≠ 0 by omega); have := Int.emod_lt_of_pos a (show (0 : Int) < t by omega); omega
    · rw [Int.toNat_of_nonneg (Int.emod_nonneg _ (by omega))]; exact pull_pos a b c t (by omega) (by omega) h
  · obtain ⟨r, h0, h2, e⟩ := pull_neg O a b c t (by omega) (by omega) h (by omega)
    refine ⟨r.toNat, .l [.int a, .int b, .int ((c + 1 : Nat) : Int)], by omega, ⟨_, _, c + 1, by omega, rfl⟩, ?_⟩
    rw [Int.toNat_of_nonneg h0]
    exact e
/-- the def that picks an item -/
def bPick (F : Fn) : M Fw := (evSeq (evRet (evOp opIxA (evCons (evVar 1) (evCons (evCall F (evCons (evVar 0) (evCons (evOp opLenA (evCons (evVar 1) evNil)) evNil))) evNil)))) evNext)
def FPick (F : Fn) : Fn := evFn 2 2 (bPick F)
theorem ixL {ds : List PyData} {r : Nat} (h : r < ds.length) : opIxA [.list ds, .int (r : Nat)] = some (.d ds[r]) := by simp [opIxA, opIx, ixD, h]
theorem ixT {ds : List PyData} {r : Nat} (h : r < ds.length) : opIxA [.tuple ds, .int (r : Nat)] = some (.d ds[r]) := by simp [opIxA, opIx, ixD, h]
theorem lnL {ds : List PyData} : opLenA [.list ds] = some (.d (.int ds.length)) := by simp [opLenA, opLen]
theorem lnT {ds : List PyData} : opLenA [.tuple ds] = some (.d (.int ds.length)) := by simp [opLenA, opLen]
theorem pick_ok {k1 m1 k2 m2 k3 dv : Int} (O : PullOk k1 m1 k2 m2 k3 dv) {k : Nat} {x : A} (hx : Bag (k + 1) x) (ds : List PyData) (hn : ds ≠ []) (h1 : ds.length < 2 ^ 60) :
    ∃ (r : Nat) (x' : A) (h : r < ds.length), Bag k x' ∧ FPick (FPull k1 m1 k2 m2 k3 dv) [x, .d (.list ds)] = some (.ok (.d ds[r], [x', .d (.list ds)])) := by
  have hp : 0 < ds.length := by cases ds with | nil => exact absurd rfl hn | cons => simp
  obtain ⟨r, x', h, hb, e⟩ := pull_ok O hx ds.length hp h1
  refine ⟨r, x', h, hb, ?_⟩
  obtain ⟨a, b, c, _, rfl⟩ := hx
  obtain ⟨a', b', c', _, rfl⟩ := hb
  have ix := ixL h
  simp [FPick, evFn, startE, bPick, evSeq, evB, evOp, evCons, evVar, evCon, evNil, bnd, fz, evRet, conts, cont, R.fz, A.isC, A.rd, slA, finA, evCall, argsA, argA, nodupB, slots, sameC, putB, e, ix, lnL]
theorem seq_nx {f g : M Fw} {Γ Γ' : Iv.Env} (h : f Γ = some (.ok (.nx, Γ'))) : evSeq f g Γ = g Γ' := by
  unfold evSeq
  rw [h]
  rfl
end Iv
set_option maxRecDepth 100000
set_option maxHeartbeats 1000000
set_option linter.all false
namespace K99
open PySem Iv

def pr (a b : Int) : D := .tuple [.int a, .int b]
def noneL : List D := [.none, .int 0, .tuple [], .list [.int 2, .tuple [pr 0 1]], .tuple [.int 0, .tuple []], .tuple [.int 10, .tuple []], .tuple [.int 2, .list [pr 0 1]], .tuple [.int 2, .tuple [pr 1 0]], .tuple [.int 2, .tuple [pr 0 2]], .tuple [.bool true, .tuple []], .tuple [.int 2, .tuple [.tuple [.int 0, .int 1, .int 1]]], .dict [], .tuple [.int 2], .tuple [.int 2, .tuple [.tuple [.int 0, .bool true]]], .tuple [.int 1, .tuple []], .tuple [.int 2, .tuple []], .tuple [.int 3, .tuple [pr 0 1, pr 1 2]], .tuple [.int 4, .tuple [pr 0 1, pr 2 3]], .tuple [.int 5, .tuple [pr 0 1, pr 0 2, pr 0 3, pr 0 4, pr 1 2, pr 3 4]], .tuple [.int 9, .tuple []]]
def standL : List D := [.none, .int 0, .tuple [], .list [.none, .int 1, .int 2], .tuple [.none, .int 1], .tuple [.none, .int 1, .int 1], .tuple [.none, .none, .int 1], .tuple [.int 0, .int 1, .int 2], .tuple [.int 1, .int 2, .int 3], .tuple [.none, .int 1, .int 3], .tuple [.none, .bool true, .int 2], .tuple [.none, .int 1, .str "2"], .str "012", .dict [], .tuple [.none, .int 0, .int 1], .tuple [.none, .int 1, .dict []]]
def roomL : List D := [.none, .int 0, .int 3, .int (-1), .bool true, .str "1", .tuple [.int 1], .list [], .dict [], .int (10 ^ 30)]
def wideL : List D := [.tuple [.int 7, .tuple [pr 0 1, pr 0 6, pr 1 2, pr 2 3, pr 3 4, pr 4 5, pr 5 6]], .tuple [.int 8, .tuple [pr 0 1, pr 0 7, pr 1 2, pr 2 3, pr 3 4, pr 4 5, pr 5 6, pr 6 7]], .tuple [.int 9, .tuple [pr 0 1, pr 0 8, pr 1 2, pr 2 3, pr 3 4, pr 4 5, pr 5 6, pr 6 7, pr 7 8]]]
def ring : D := .tuple [.int 3, .tuple [pr 0 1, pr 0 2, pr 1 2]]
def good : D := .tuple [.none, .int 1, .int 2]
def oddL : List D := [.dict [], .list [.list []], .dict [(.str "a", .int 1)], .tuple [.str "slides", .dict []], .tuple [.str "slides", .tuple [.dict []]], .tuple [.str "slides", .tuple [.none]], .tuple [.str "rounds", .dict [], .list []], .tuple [.str "rounds", .tuple [.dict [], .int 1], .tuple [.int 1, .int 2]], .tuple [.str "signs", .dict [], .int 1], .tuple [.str "signs", .list [], .dict []], .tuple [.dict [], .int 0]]
def z0 : M Fw := (evSet 1 (evLst (evCons (evCon .none) (evCons (evCon (.int 0)) (evCons (evTup evNil) (evCons (evLst (evCons (evCon (.int 2)) (evCons (evTup (evCons (evTup (evCons (evCon (.int 0)) (evCons (evCon (.int 1)) evNil))) evNil)) evNil))) (evCons (evTup (evCons (evCon (.int 0)) (evCons (evTup evNil) evNil))) (evCons (evTup (evCons (evCon (.int 10)) (evCons (evTup evNil) evNil))) (evCons (evTup (evCons (evCon (.int 2)) (evCons (evLst (evCons (evTup (evCons (evCon (.int 0)) (evCons (evCon (.int 1)) evNil))) evNil)) evNil))) (evCons (evTup (evCons (evCon (.int 2)) (evCons (evTup (evCons (evTup (evCons (evCon (.int 1)) (evCons (evCon (.int 0)) evNil))) evNil)) evNil))) (evCons (evTup (evCons (evCon (.int 2)) (evCons (evTup (evCons (evTup (evCons (evCon (.int 0)) (evCons (evCon (.int 2)) evNil))) evNil)) evNil))) (evCons (evTup (evCons (evCon (.bool true)) (evCons (evTup evNil) evNil))) (evCons (evTup (evCons (evCon (.int 2)) (evCons (evTup (evCons (evTup (evCons (evCon (.int 0)) (evCons (evCon (.int 1)) (evCons (evCon (.int 1)) evNil)))) evNil)) evNil))) (evCons evDict0 (evCons (evTup (evCons (evCon (.int 2)) evNil)) (evCons (evTup (evCons (evCon (.int 2)) (evCons (evTup (evCons (evTup (evCons (evCon (.int 0)) (evCons (evCon (.bool true)) evNil))) evNil)) evNil))) evNil))))))))))))))))
def z1 : M Fw := (evSet 1 (evCall F__law_choose (evCons (evVar 0) (evCons (evOp opAdd (evCons (evVar 1) (evCons (evLst (evCons (evTup (evCons (evCon (.int 1)) (evCons (evTup evNil) evNil))) (evCons (evTup (evCons (evCon (.int 2)) (evCons (evTup evNil) evNil))) (evCons (evTup (evCons (evCon (.int 3)) (evCons (evTup (evCons (evTup (evCons (evCon (.int 0)) (evCons (evCon (.int 1)) evNil))) (evCons (evTup (evCons (evCon (.int 1)) (evCons (evCon (.int 2)) evNil))) evNil))) evNil))) (evCons (evTup (evCons (evCon (.int 4)) (evCons (evTup (evCons (evTup (evCons (evCon (.int 0)) (evCons (evCon (.int 1)) evNil))) (evCons (evTup (evCons (evCon (.int 2)) (evCons (evCon (.int 3)) evNil))) evNil))) evNil))) (evCons (evTup (evCons (evCon (.int 5)) (evCons (evTup (evCons (evTup (evCons (evCon (.int 0)) (evCons (evCon (.int 1)) evNil))) (evCons (evTup (evCons (evCon (.int 0)) (evCons (evCon (.int 2)) evNil))) (evCons (evTup (evCons (evCon (.int 0)) (evCons (evCon (.int 3)) evNil))) (evCons (evTup (evCons (evCon (.int 0)) (evCons (evCon (.int 4)) evNil))) (evCons (evTup (evCons (evCon (.int 1)) (evCons (evCon (.int 2)) evNil))) (evCons (evTup (evCons (evCon (.int 3)) (evCons (evCon (.int 4)) evNil))) evNil))))))) evNil))) (evCons (evTup (evCons (evCon (.int 9)) (evCons (evTup evNil) evNil))) evNil))))))) evNil))) evNil))))
def z2 : M Fw := (evSet 2 (evOp opAdd (evCons (evCon (.int 7)) (evCons (evCall F__law_pull (evCons (evVar 0) (evCons (evCon (.int 3)) evNil))) evNil))))
def z3 : M Fw := (evSet 2 (evTup (evCons (evVar 2) (evCons (evOp opTuple (evCons (evOp opSortedA (evCons (evOp opAdd (evCons (evLc (itRng1 (evCons (evOp opSub (evCons (evVar 2) (evCons (evCon (.int 1)) evNil))) evNil)) (gvName 12) evTrue (evTup (evCons (evVar 12) (evCons (evOp opAdd (evCons (evVar 12) (evCons (evCon (.int 1)) evNil))) evNil))) [12]) (evCons (evLst (evCons (evTup (evCons (evCon (.int 0)) (evCons (evOp opSub (evCons (evVar 2) (evCons (evCon (.int 1)) evNil))) evNil))) evNil)) evNil))) evNil)) evNil)) evNil))))
def z4 : M Fw := (evSet 3 (evCall F__law_choose (evCons (evVar 0) (evCons (evLst (evCons (evCon .none) (evCons (evCon (.int 0)) (evCons (evTup evNil) (evCons (evLst (evCons (evCon .none) (evCons (evCon (.int 1)) (evCons (evCon (.int 2)) evNil)))) (evCons (evTup (evCons (evCon .none) (evCons (evCon (.int 1)) evNil))) (evCons (evTup (evCons (evCon .none) (evCons (evCon (.int 1)) (evCons (evCon (.int 1)) evNil)))) (evCons (evTup (evCons (evCon .none) (evCons (evCon .none) (evCons (evCon (.int 1)) evNil)))) (evCons (evTup (evCons (evCon (.int 0)) (evCons (evCon (.int 1)) (evCons (evCon (.int 2)) evNil)))) (evCons (evTup (evCons (evCon (.int 1)) (evCons (evCon (.int 2)) (evCons (evCon (.int 3)) evNil)))) (evCons (evTup (evCons (evCon .none) (evCons (evCon (.int 1)) (evCons (evCon (.int 3)) evNil)))) (evCons (evTup (evCons (evCon .none) (evCons (evCon (.bool true)) (evCons (evCon (.int 2)) evNil)))) (evCons (evTup (evCons (evCon .none) (evCons (evCon (.int 1)) (evCons (evCon (.str "2")) evNil)))) (evCons (evCon (.str "012")) (evCons evDict0 (evCons (evTup (evCons (evCon .none) (evCons (evCon (.int 0)) (evCons (evCon (.int 1)) evNil)))) (evCons (evTup (evCons (evCon .none) (evCons (evCon (.int 1)) (evCons evDict0 evNil)))) evNil))))))))))))))))) evNil))))
def z5 : M Fw := (evSet 4 (evCall F__law_choose (evCons (evVar 0) (evCons (evLst (evCons (evCon .none) (evCons (evCon (.int 0)) (evCons (evCon (.int 3)) (evCons (evOp opNeg (evCons (evCon (.int 1)) evNil)) (evCons (evCon (.bool true)) (evCons (evCon (.str "1")) (evCons (evTup (evCons (evCon (.int 1)) evNil)) (evCons (evLst evNil) (evCons evDict0 (evCons (evOp opPow (evCons (evCon (.int 10)) (evCons (evCon (.int 30)) evNil))) evNil))))))))))) evNil))))
def z6 : M Fw := (evPar [6, 7, 8, 9] (evNCons (evTup (evCons (evCon (.int 3)) (evCons (evTup (evCons (evTup (evCons (evCon (.int 0)) (evCons (evCon (.int 1)) evNil))) (evCons (evTup (evCons (evCon (.int 0)) (evCons (evCon (.int 2)) evNil))) (evCons (evTup (evCons (evCon (.int 1)) (evCons (evCon (.int 2)) evNil))) evNil)))) evNil))) (evNCons (evTup (evCons (evCon .none) (evCons (evCon (.int 1)) (evCons (evCon (.int 2)) evNil)))) (evNCons (evLst evNil) (evNCons (evLst evNil) evNNil)))))
def z8 : M Fw := (evDrop (evMut 8 .lst mAppend false (evCons (evLam h__law_met (evCall F_count_stands (evCons (evVar 1) evNil))) evNil)))
def z9 : M Fw := (evDrop (evMut 8 .lst mAppend false (evCons (evLam h__law_met (evCall F_count_stands (evCons (evVar 2) evNil))) evNil)))
def z10 : M Fw := (evDrop (evMut 8 .lst mAppend false (evCons (evLam h__law_met (evCall F_slides_paper (evCons (evVar 6) (evCons (evVar 7) (evCons (evVar 3) evNil))))) evNil)))
def z11 : M Fw := (evDrop (evMut 8 .lst mAppend false (evCons (evLam h__law_met (evCall F_least_slides (evCons (evVar 6) (evCons (evVar 7) (evCons (evVar 3) evNil))))) evNil)))
def z12 : M Fw := (evDrop (evMut 8 .lst mAppend false (evCons (evLam h__law_met (evCall F_slide (evCons (evVar 6) (evCons (evVar 7) (evCons (evVar 4) evNil))))) evNil)))
def z13 : M Fw := (evDrop (evMut 8 .lst mAppend false (evCons (evLam h__law_met (evCall F_slid (evCons (evVar 6) (evCons (evVar 7) (evCons (evTup (evCons (evCon (.int 1)) (evCons (evCon (.int 0)) (evCons (evVar 4) evNil)))) evNil))))) evNil)))
def z14 : M Fw := (evDrop (evMut 8 .lst mAppend false (evCons (evLam h__law_met (evCall F_slid (evCons (evVar 6) (evCons (evVar 7) (evCons (evLst (evCons (evCon (.int 1)) (evCons (evCon (.int 0)) evNil))) evNil))))) evNil)))
def z15 : M Fw := (evDrop (evMut 8 .lst mAppend false (evCons (evLam h__law_met (evCall F_slid (evCons (evVar 6) (evCons (evVar 7) (evCons (evTup (evCons (evCon (.int 0)) evNil)) evNil))))) evNil)))
def z16 : M Fw := (evDrop (evMut 8 .lst mAppend false (evCons (evLam h__law_met (evCall F_slid (evCons (evVar 6) (evCons (evVar 7) (evCons (evTup (evCons (evCon (.int 1)) (evCons (evCon (.int 1)) evNil))) evNil))))) evNil)))
def z17 : M Fw := (evIf (evB (evOp opNe (evCons (evVar 8) (evCons (evOp opAdd (evCons (evVar 9) (evCons (evLst (evCons (evCon (.str "house")) (evCons (evCon (.str "wide")) (evCons (evCon (.str "stand")) (evCons (evCon (.str "stand")) (evCons (evTup (evCons (evCon (.str "room")) (evCons (evOp opRepr (evCons (evVar 4) evNil)) evNil))) (evCons (evTup (evCons (evCon (.str "walk")) (evCons (evCon (.int 2)) evNil))) (evCons (evTup (evCons (evCon (.str "walk")) (evCons (evCon (.int 0)) evNil))) (evCons (evTup (evCons (evCon (.str "walk")) (evCons (evCon (.int 0)) evNil))) (evCons (evTup (evCons (evCon (.str "walk")) (evCons (evCon (.int 1)) evNil))) evNil)))))))))) evNil))) evNil)))) (evSeq (evRet (evCon (.bool false))) evNext) evNext)
def z19 : M Fw := (evRet (evCon (.bool true)))
def it7 : M (List D) := (itAny (evTup (evCons (evTup (evCons (evVar 1) (evCons (evCon (.str "house")) evNil))) (evCons (evTup (evCons (evVar 2) (evCons (evCon (.str "wide")) evNil))) (evCons (evTup (evCons (evVar 6) (evCons (evCon (.str "stand")) evNil))) evNil)))))
def gv7 : Bd := (gvTup 2 (gvCons (gvName 10) (gvCons (gvName 11) gvNil)))
def bo7 : M Fw := (evSeq (evDrop (evMut 8 .lst mAppend false (evCons (evLam h__law_met (evCall F_slide (evCons (evVar 10) (evCons (evVar 3) (evCons (evVar 4) evNil))))) evNil))) (evSeq (evDrop (evMut 8 .lst mAppend false (evCons (evLam h__law_met (evCall F_slid (evCons (evVar 10) (evCons (evVar 3) (evCons (evVar 4) evNil))))) evNil))) (evSeq (evDrop (evMut 8 .lst mAppend false (evCons (evLam h__law_met (evCall F_slides_paper (evCons (evVar 10) (evCons (evVar 3) (evCons (evVar 3) evNil))))) evNil))) (evSeq (evDrop (evMut 8 .lst mAppend false (evCons (evLam h__law_met (evCall F_shows_slides (evCons (evVar 10) (evCons (evVar 3) (evCons (evVar 3) (evCons (evCon .none) evNil)))))) evNil))) (evSeq (evDrop (evMut 8 .lst mAppend false (evCons (evLam h__law_met (evCall F_least_slides (evCons (evVar 10) (evCons (evVar 3) (evCons (evVar 3) evNil))))) evNil))) (evSeq (evDrop (evMut 8 .lst mAppend false (evCons (evLam h__law_met (evCall F_sign (evCons (evVar 10) (evCons (evVar 3) evNil)))) evNil))) (evSeq (evDrop (evMut 8 .lst mAppend false (evCons (evLam h__law_met (evCall F_round_things (evCons (evVar 10) (evCons (evVar 3) evNil)))) evNil))) (evSeq (evSet 9 (evOp opAdd (evCons (evVar 9) (evCons (evOp opMul (evCons (evLst (evCons (evVar 11) evNil)) (evCons (evCon (.int 7)) evNil))) evNil)))) evNext))))))))
def z7 : M Fw := evFor it7 gv7 bo7
def it18 : M (List D) := (itAny (evLst (evCons (evVar 1) (evCons (evVar 2) (evCons (evVar 3) (evCons (evVar 4) (evCons evDict0 (evCons (evLst (evCons (evLst evNil) evNil)) (evCons (evDict1 (evCon (.str "a")) (evCon (.int 1))) (evCons (evTup (evCons (evCon (.str "slides")) (evCons evDict0 evNil))) (evCons (evTup (evCons (evCon (.str "slides")) (evCons (evTup (evCons evDict0 evNil)) evNil))) (evCons (evTup (evCons (evCon (.str "slides")) (evCons (evTup (evCons (evCon .none) evNil)) evNil))) (evCons (evTup (evCons (evCon (.str "rounds")) (evCons evDict0 (evCons (evLst evNil) evNil)))) (evCons (evTup (evCons (evCon (.str "rounds")) (evCons (evTup (evCons evDict0 (evCons (evCon (.int 1)) evNil))) (evCons (evTup (evCons (evCon (.int 1)) (evCons (evCon (.int 2)) evNil))) evNil)))) (evCons (evTup (evCons (evCon (.str "signs")) (evCons evDict0 (evCons (evCon (.int 1)) evNil)))) (evCons (evTup (evCons (evCon (.str "signs")) (evCons (evLst evNil) (evCons evDict0 evNil)))) (evCons (evTup (evCons evDict0 (evCons (evCon (.int 0)) evNil))) evNil)))))))))))))))))
def gv18 : Bd := (gvName 5)
def bo18 : M Fw := (evSeq (evIf (evB (evOp opIsNot (evCons (evCall F_shows_slides (evCons (evVar 6) (evCons (evVar 7) (evCons (evTup (evCons (evCon .none) (evCons (evCon (.int 2)) (evCons (evCon (.int 1)) evNil)))) (evCons (evVar 5) evNil))))) (evCons (evCon (.bool false)) evNil)))) (evSeq (evRet (evCon (.bool false))) evNext) evNext) evNext)
def z18 : M Fw := evFor it18 gv18 bo18
theorem right_split : b__law_right = (evSeq z0 (evSeq z1 (evSeq z2 (evSeq z3 (evSeq z4 (evSeq z5 (evSeq z6 (evSeq z7 (evSeq z8 (evSeq z9 (evSeq z10 (evSeq z11 (evSeq z12 (evSeq z13 (evSeq z14 (evSeq z15 (evSeq z16 (evSeq z17 (evSeq z18 (evSeq z19 evNext)))))))))))))))))))) := rfl
abbrev o (x : D) : Sl := .c ⟨true⟩ (.d x)
def env (cr : A) (s1 s2 s3 s4 s5 s6 s7 s8 s9 s10 s11 : Sl) : Iv.Env := [.c ⟨false⟩ cr, s1, s2, s3, s4, s5, s6, s7, s8, s9, s10, s11, .un]
abbrev ll (xs : List D) : Sl := .c ⟨true⟩ (.l xs)
def rep (n : Nat) (s : Str) : List D := List.replicate n (.str s)
abbrev t0 : List D := []
abbrev t1 : List D := rep 7 "house"
abbrev t2 : List D := t1 ++ rep 7 "wide"
abbrev t3 : List D := t2 ++ rep 7 "stand"
abbrev t8 : List D := t3 ++ [.str "house"]
abbrev t9 : List D := t8 ++ [.str "wide"]
abbrev t10 : List D := t9 ++ [.str "stand"]
abbrev t11 : List D := t10 ++ [.str "stand"]
abbrev t12 (q : D) : List D := t11 ++ [q]
abbrev wk (n : Int) : D := .tuple [.str "walk", .int n]
abbrev t13 (q : D) : List D := t12 q ++ [wk 2]
abbrev t14 (q : D) : List D := t13 q ++ [wk 0]
abbrev t15 (q : D) : List D := t14 q ++ [wk 0]
abbrev t16 (q : D) : List D := t15 q ++ [wk 1]
abbrev rq (r : D) : D := .tuple [.str "room", .str r.shown]
end K99
set_option maxRecDepth 100000
set_option maxHeartbeats 1000000
set_option linter.all false
namespace K99
open PySem Iv
theorem a1_0 (cr : A) (w y r : D) : bo7 (env cr (o noneL[0]) (o w) (o y) (o r) .un (o ring) (o good) (ll t0) (ll t0) (o noneL[0]) (o (.str "house"))) = some (.ok (.nx, (env cr (o noneL[0]) (o w) (o y) (o r) .un (o ring) (o good) (ll t1) (ll t1) (o noneL[0]) (o (.str "house"))))) := by kernel_rfl
theorem a1_1 (cr : A) (w y r : D) : bo7 (env cr (o noneL[1]) (o w) (o y) (o r) .un (o ring) (o good) (ll t0) (ll t0) (o noneL[1]) (o (.str "house"))) = some (.ok (.nx, (env cr (o noneL[1]) (o w) (o y) (o r) .un (o ring) (o good) (ll t1) (ll t1) (o noneL[1]) (o (.str "house"))))) := by kernel_rfl
theorem a1_2 (cr : A) (w y r : D) : bo7 (env cr (o noneL[2]) (o w) (o y) (o r) .un (o ring) (o good) (ll t0) (ll t0) (o noneL[2]) (o (.str "house"))) = some (.ok (.nx, (env cr (o noneL[2]) (o w) (o y) (o r) .un (o ring) (o good) (ll t1) (ll t1) (o noneL[2]) (o (.str "house"))))) := by kernel_rfl
theorem a1_3 (cr : A) (w y r : D) : bo7 (env cr (o noneL[3]) (o w) (o y) (o r) .un (o ring) (o good) (ll t0) (ll t0) (o noneL[3]) (o (.str "house"))) = some (.ok (.nx, (env cr (o noneL[3]) (o w) (o y) (o r) .un (o ring) (o good) (ll t1) (ll t1) (o noneL[3]) (o (.str "house"))))) := by kernel_rfl
theorem a1_4 (cr : A) (w y r : D) : bo7 (env cr (o noneL[4]) (o w) (o y) (o r) .un (o ring) (o good) (ll t0) (ll t0) (o noneL[4]) (o (.str "house"))) = some (.ok (.nx, (env cr (o noneL[4]) (o w) (o y) (o r) .un (o ring) (o good) (ll t1) (ll t1) (o noneL[4]) (o (.str "house"))))) := by kernel_rfl
theorem a1_5 (cr : A) (w y r : D) : bo7 (env cr (o noneL[5]) (o w) (o y) (o r) .un (o ring) (o good) (ll t0) (ll t0) (o noneL[5]) (o (.str "house"))) = some (.ok (.nx, (env cr (o noneL[5]) (o w) (o y) (o r) .un (o ring) (o good) (ll t1) (ll t1) (o noneL[5]) (o (.str "house"))))) := by kernel_rfl
theorem a1_6 (cr : A) (w y r : D) : bo7 (env cr (o noneL[6]) (o w) (o y) (o r) .un (o ring) (o good) (ll t0) (ll t0) (o noneL[6]) (o (.str "house"))) = some (.ok (.nx, (env cr (o noneL[6]) (o w) (o y) (o r) .un (o ring) (o good) (ll t1) (ll t1) (o noneL[6]) (o (.str "house"))))) := by kernel_rfl
theorem a1_7 (cr : A) (w y r : D) : bo7 (env cr (o noneL[7]) (o w) (o y) (o r) .un (o ring) (o good) (ll t0) (ll t0) (o noneL[7]) (o (.str "house"))) = some (.ok (.nx, (env cr (o noneL[7]) (o w) (o y) (o r) .un (o ring) (o good) (ll t1) (ll t1) (o noneL[7]) (o (.str "house"))))) := by kernel_rfl
theorem a1_8 (cr : A) (w y r : D) : bo7 (env cr (o noneL[8]) (o w) (o y) (o r) .un (o ring) (o good) (ll t0) (ll t0) (o noneL[8]) (o (.str "house"))) = some (.ok (.nx, (env cr (o noneL[8]) (o w) (o y) (o r) .un (o ring) (o good) (ll t1) (ll t1) (o noneL[8]) (o (.str "house"))))) := by kernel_rfl
theorem a1_9 (cr : A) (w y r : D) : bo7 (env cr (o noneL[9]) (o w) (o y) (o r) .un (o ring) (o good) (ll t0) (ll t0) (o noneL[9]) (o (.str "house"))) = some (.ok (.nx, (env cr (o noneL[9]) (o w) (o y) (o r) .un (o ring) (o good) (ll t1) (ll t1) (o noneL[9]) (o (.str "house"))))) := by kernel_rfl
theorem a1_10 (cr : A) (w y r : D) : bo7 (env cr (o noneL[10]) (o w) (o y) (o r) .un (o ring) (o good) (ll t0) (ll t0) (o noneL[10]) (o (.str "house"))) = some (.ok (.nx, (env cr (o noneL[10]) (o w) (o y) (o r) .un (o ring) (o good) (ll t1) (ll t1) (o noneL[10]) (o (.str "house"))))) := by kernel_rfl
theorem a1_11 (cr : A) (w y r : D) : bo7 (env cr (o noneL[11]) (o w) (o y) (o r) .un (o ring) (o good) (ll t0) (ll t0) (o noneL[11]) (o (.str "house"))) = some (.ok (.nx, (env cr (o noneL[11]) (o w) (o y) (o r) .un (o ring) (o good) (ll t1) (ll t1) (o noneL[11]) (o (.str "house"))))) := by kernel_rfl
theorem a1_12 (cr : A) (w y r : D) : bo7 (env cr (o noneL[12]) (o w) (o y) (o r) .un (o ring) (o good) (ll t0) (ll t0) (o noneL[12]) (o (.str "house"))) = some (.ok (.nx, (env cr (o noneL[12]) (o w) (o y) (o r) .un (o ring) (o good) (ll t1) (ll t1) (o noneL[12]) (o (.str "house"))))) := by kernel_rfl
theorem a1_13 (cr : A) (w y r : D) : bo7 (env cr (o noneL[13]) (o w) (o y) (o r) .un (o ring) (o good) (ll t0) (ll t0) (o noneL[13]) (o (.str "house"))) = some (.ok (.nx, (env cr (o noneL[13]) (o w) (o y) (o r) .un (o ring) (o good) (ll t1) (ll t1) (o noneL[13]) (o (.str "house"))))) := by kernel_rfl
theorem a1_14 (cr : A) (w y r : D) : bo7 (env cr (o noneL[14]) (o w) (o y) (o r) .un (o ring) (o good) (ll t0) (ll t0) (o noneL[14]) (o (.str "house"))) = some (.ok (.nx, (env cr (o noneL[14]) (o w) (o y) (o r) .un (o ring) (o good) (ll t1) (ll t1) (o noneL[14]) (o (.str "house"))))) := by kernel_rfl
theorem a1_15 (cr : A) (w y r : D) : bo7 (env cr (o noneL[15]) (o w) (o y) (o r) .un (o ring) (o good) (ll t0) (ll t0) (o noneL[15]) (o (.str "house"))) = some (.ok (.nx, (env cr (o noneL[15]) (o w) (o y) (o r) .un (o ring) (o good) (ll t1) (ll t1) (o noneL[15]) (o (.str "house"))))) := by kernel_rfl
theorem a1_16 (cr : A) (w y r : D) : bo7 (env cr (o noneL[16]) (o w) (o y) (o r) .un (o ring) (o good) (ll t0) (ll t0) (o noneL[16]) (o (.str "house"))) = some (.ok (.nx, (env cr (o noneL[16]) (o w) (o y) (o r) .un (o ring) (o good) (ll t1) (ll t1) (o noneL[16]) (o (.str "house"))))) := by kernel_rfl
theorem a1_17 (cr : A) (w y r : D) : bo7 (env cr (o noneL[17]) (o w) (o y) (o r) .un (o ring) (o good) (ll t0) (ll t0) (o noneL[17]) (o (.str "house"))) = some (.ok (.nx, (env cr (o noneL[17]) (o w) (o y) (o r) .un (o ring) (o good) (ll t1) (ll t1) (o noneL[17]) (o (.str "house"))))) := by kernel_rfl
theorem a1_18 (cr : A) (w y r : D) : bo7 (env cr (o noneL[18]) (o w) (o y) (o r) .un (o ring) (o good) (ll t0) (ll t0) (o noneL[18]) (o (.str "house"))) = some (.ok (.nx, (env cr (o noneL[18]) (o w) (o y) (o r) .un (o ring) (o good) (ll t1) (ll t1) (o noneL[18]) (o (.str "house"))))) := by kernel_rfl
theorem a1_19 (cr : A) (w y r : D) : bo7 (env cr (o noneL[19]) (o w) (o y) (o r) .un (o ring) (o good) (ll t0) (ll t0) (o noneL[19]) (o (.str "house"))) = some (.ok (.nx, (env cr (o noneL[19]) (o w) (o y) (o r) .un (o ring) (o good) (ll t1) (ll t1) (o noneL[19]) (o (.str "house"))))) := by kernel_rfl
theorem a1 (cr : A) (w y r : D) : ∀ v ∈ noneL, bo7 (env cr (o v) (o w) (o y) (o r) .un (o ring) (o good) (ll t0) (ll t0) (o v) (o (.str "house"))) = some (.ok (.nx, (env cr (o v) (o w) (o y) (o r) .un (o ring) (o good) (ll t1) (ll t1) (o v) (o (.str "house"))))) := by
  intro v hv
  simp only [noneL, List.mem_cons, List.not_mem_nil, or_false] at hv
  rcases hv with rfl | rfl | rfl | rfl | rfl | rfl | rfl | rfl | rfl | rfl | rfl | rfl | rfl | rfl | rfl | rfl | rfl | rfl | rfl | rfl
  · exact a1_0 cr w y r
  · exact a1_1 cr w y r
  · exact a1_2 cr w y r
  · exact a1_3 cr w y r
  · exact a1_4 cr w y r
  · exact a1_5 cr w y r
  · exact a1_6 cr w y r
  · exact a1_7 cr w y r
  · exact a1_8 cr w y r
  · exact a1_9 cr w y r
  · exact a1_10 cr w y r
  · exact a1_11 cr w y r
  · exact a1_12 cr w y r
  · exact a1_13 cr w y r
  · exact a1_14 cr w y r
  · exact a1_15 cr w y r
  · exact a1_16 cr w y r
  · exact a1_17 cr w y r
  · exact a1_18 cr w y r
  · exact a1_19 cr w y r
end K99
set_option maxRecDepth 100000
set_option maxHeartbeats 1000000
set_option linter.all false
namespace K99
open PySem Iv
theorem a2_0 (cr : A) (x y r : D) : bo7 (env cr (o x) (o wideL[0]) (o y) (o r) .un (o ring) (o good) (ll t1) (ll t1) (o wideL[0]) (o (.str "wide"))) = some (.ok (.nx, (env cr (o x) (o wideL[0]) (o y) (o r) .un (o ring) (o good) (ll t2) (ll t2) (o wideL[0]) (o (.str "wide"))))) := by kernel_rfl
theorem a2_1 (cr : A) (x y r : D) : bo7 (env cr (o x) (o wideL[1]) (o y) (o r) .un (o ring) (o good) (ll t1) (ll t1) (o wideL[1]) (o (.str "wide"))) = some (.ok (.nx, (env cr (o x) (o wideL[1]) (o y) (o r) .un (o ring) (o good) (ll t2) (ll t2) (o wideL[1]) (o (.str "wide"))))) := by kernel_rfl
theorem a2_2 (cr : A) (x y r : D) : bo7 (env cr (o x) (o wideL[2]) (o y) (o r) .un (o ring) (o good) (ll t1) (ll t1) (o wideL[2]) (o (.str "wide"))) = some (.ok (.nx, (env cr (o x) (o wideL[2]) (o y) (o r) .un (o ring) (o good) (ll t2) (ll t2) (o wideL[2]) (o (.str "wide"))))) := by kernel_rfl
theorem a2 (cr : A) (x y r : D) : ∀ v ∈ wideL, bo7 (env cr (o x) (o v) (o y) (o r) .un (o ring) (o good) (ll t1) (ll t1) (o v) (o (.str "wide"))) = some (.ok (.nx, (env cr (o x) (o v) (o y) (o r) .un (o ring) (o good) (ll t2) (ll t2) (o v) (o (.str "wide"))))) := by
  intro v hv
  simp only [wideL, List.mem_cons, List.not_mem_nil, or_false] at hv
  rcases hv with rfl | rfl | rfl
  · exact a2_0 cr x y r
  · exact a2_1 cr x y r
  · exact a2_2 cr x y r
theorem a3_0 (cr : A) (x w r : D) : bo7 (env cr (o x) (o w) (o standL[0]) (o r) .un (o ring) (o good) (ll t2) (ll t2) (o ring) (o (.str "stand"))) = some (.ok (.nx, (env cr (o x) (o w) (o standL[0]) (o r) .un (o ring) (o good) (ll t3) (ll t3) (o ring) (o (.str "stand"))))) := by kernel_rfl
theorem a3_1 (cr : A) (x w r : D) : bo7 (env cr (o x) (o w) (o standL[1]) (o r) .un (o ring) (o good) (ll t2) (ll t2) (o ring) (o (.str "stand"))) = some (.ok (.nx, (env cr (o x) (o w) (o standL[1]) (o r) .un (o ring) (o good) (ll t3) (ll t3) (o ring) (o (.str "stand"))))) := by kernel_rfl
theorem a3_2 (cr : A) (x w r : D) : bo7 (env cr (o x) (o w) (o standL[2]) (o r) .un (o ring) (o good) (ll t2) (ll t2) (o ring) (o (.str "stand"))) = some (.ok (.nx, (env cr (o x) (o w) (o standL[2]) (o r) .un (o ring) (o good) (ll t3) (ll t3) (o ring) (o (.str "stand"))))) := by kernel_rfl
theorem a3_3 (cr : A) (x w r : D) : bo7 (env cr (o x) (o w) (o standL[3]) (o r) .un (o ring) (o good) (ll t2) (ll t2) (o ring) (o (.str "stand"))) = some (.ok (.nx, (env cr (o x) (o w) (o standL[3]) (o r) .un (o ring) (o good) (ll t3) (ll t3) (o ring) (o (.str "stand"))))) := by kernel_rfl
theorem a3_4 (cr : A) (x w r : D) : bo7 (env cr (o x) (o w) (o standL[4]) (o r) .un (o ring) (o good) (ll t2) (ll t2) (o ring) (o (.str "stand"))) = some (.ok (.nx, (env cr (o x) (o w) (o standL[4]) (o r) .un (o ring) (o good) (ll t3) (ll t3) (o ring) (o (.str "stand"))))) := by kernel_rfl
theorem a3_5 (cr : A) (x w r : D) : bo7 (env cr (o x) (o w) (o standL[5]) (o r) .un (o ring) (o good) (ll t2) (ll t2) (o ring) (o (.str "stand"))) = some (.ok (.nx, (env cr (o x) (o w) (o standL[5]) (o r) .un (o ring) (o good) (ll t3) (ll t3) (o ring) (o (.str "stand"))))) := by kernel_rfl
theorem a3_6 (cr : A) (x w r : D) : bo7 (env cr (o x) (o w) (o standL[6]) (o r) .un (o ring) (o good) (ll t2) (ll t2) (o ring) (o (.str "stand"))) = some (.ok (.nx, (env cr (o x) (o w) (o standL[6]) (o r) .un (o ring) (o good) (ll t3) (ll t3) (o ring) (o (.str "stand"))))) := by kernel_rfl
theorem a3_7 (cr : A) (x w r : D) : bo7 (env cr (o x) (o w) (o standL[7]) (o r) .un (o ring) (o good) (ll t2) (ll t2) (o ring) (o (.str "stand"))) = some (.ok (.nx, (env cr (o x) (o w) (o standL[7]) (o r) .un (o ring) (o good) (ll t3) (ll t3) (o ring) (o (.str "stand"))))) := by kernel_rfl
theorem a3_8 (cr : A) (x w r : D) : bo7 (env cr (o x) (o w) (o standL[8]) (o r) .un (o ring) (o good) (ll t2) (ll t2) (o ring) (o (.str "stand"))) = some (.ok (.nx, (env cr (o x) (o w) (o standL[8]) (o r) .un (o ring) (o good) (ll t3) (ll t3) (o ring) (o (.str "stand"))))) := by kernel_rfl
theorem a3_9 (cr : A) (x w r : D) : bo7 (env cr (o x) (o w) (o standL[9]) (o r) .un (o ring) (o good) (ll t2) (ll t2) (o ring) (o (.str "stand"))) = some (.ok (.nx, (env cr (o x) (o w) (o standL[9]) (o r) .un (o ring) (o good) (ll t3) (ll t3) (o ring) (o (.str "stand"))))) := by kernel_rfl
theorem a3_10 (cr : A) (x w r : D) : bo7 (env cr (o x) (o w) (o standL[10]) (o r) .un (o ring) (o good) (ll t2) (ll t2) (o ring) (o (.str "stand"))) = some (.ok (.nx, (env cr (o x) (o w) (o standL[10]) (o r) .un (o ring) (o good) (ll t3) (ll t3) (o ring) (o (.str "stand"))))) := by kernel_rfl
theorem a3_11 (cr : A) (x w r : D) : bo7 (env cr (o x) (o w) (o standL[11]) (o r) .un (o ring) (o good) (ll t2) (ll t2) (o ring) (o (.str "stand"))) = some (.ok (.nx, (env cr (o x) (o w) (o standL[11]) (o r) .un (o ring) (o good) (ll t3) (ll t3) (o ring) (o (.str "stand"))))) := by kernel_rfl
theorem a3_12 (cr : A) (x w r : D) : bo7 (env cr (o x) (o w) (o standL[12]) (o r) .un (o ring) (o good) (ll t2) (ll t2) (o ring) (o (.str "stand"))) = some (.ok (.nx, (env cr (o x) (o w) (o standL[12]) (o r) .un (o ring) (o good) (ll t3) (ll t3) (o ring) (o (.str "stand"))))) := by kernel_rfl
theorem a3_13 (cr : A) (x w r : D) : bo7 (env cr (o x) (o w) (o standL[13]) (o r) .un (o ring) (o good) (ll t2) (ll t2) (o ring) (o (.str "stand"))) = some (.ok (.nx, (env cr (o x) (o w) (o standL[13]) (o r) .un (o ring) (o good) (ll t3) (ll t3) (o ring) (o (.str "stand"))))) := by kernel_rfl
theorem a3_14 (cr : A) (x w r : D) : bo7 (env cr (o x) (o w) (o standL[14]) (o r) .un (o ring) (o good) (ll t2) (ll t2) (o ring) (o (.str "stand"))) = some (.ok (.nx, (env cr (o x) (o w) (o standL[14]) (o r) .un (o ring) (o good) (ll t3) (ll t3) (o ring) (o (.str "stand"))))) := by kernel_rfl
theorem a3_15 (cr : A) (x w r : D) : bo7 (env cr (o x) (o w) (o standL[15]) (o r) .un (o ring) (o good) (ll t2) (ll t2) (o ring) (o (.str "stand"))) = some (.ok (.nx, (env cr (o x) (o w) (o standL[15]) (o r) .un (o ring) (o good) (ll t3) (ll t3) (o ring) (o (.str "stand"))))) := by kernel_rfl
theorem a3 (cr : A) (x w r : D) : ∀ v ∈ standL, bo7 (env cr (o x) (o w) (o v) (o r) .un (o ring) (o good) (ll t2) (ll t2) (o ring) (o (.str "stand"))) = some (.ok (.nx, (env cr (o x) (o w) (o v) (o r) .un (o ring) (o good) (ll t3) (ll t3) (o ring) (o (.str "stand"))))) := by
  intro v hv
  simp only [standL, List.mem_cons, List.not_mem_nil, or_false] at hv
  rcases hv with rfl | rfl | rfl | rfl | rfl | rfl | rfl | rfl | rfl | rfl | rfl | rfl | rfl | rfl | rfl | rfl
  · exact a3_0 cr x w r
  · exact a3_1 cr x w r
  · exact a3_2 cr x w r
  · exact a3_3 cr x w r
  · exact a3_4 cr x w r
  · exact a3_5 cr x w r
  · exact a3_6 cr x w r
  · exact a3_7 cr x w r
  · exact a3_8 cr x w r
  · exact a3_9 cr x w r
  · exact a3_10 cr x w r
  · exact a3_11 cr x w r
  · exact a3_12 cr x w r
  · exact a3_13 cr x w r
  · exact a3_14 cr x w r
  · exact a3_15 cr x w r
end K99
set_option maxRecDepth 100000
set_option maxHeartbeats 1000000
set_option linter.all false
namespace K99
open PySem Iv
theorem a8_0 (cr : A) (w y r : D) : z8 (env cr (o noneL[0]) (o w) (o y) (o r) .un (o ring) (o good) (ll t3) (ll t3) (o ring) (o (.str "stand"))) = some (.ok (.nx, (env cr (o noneL[0]) (o w) (o y) (o r) .un (o ring) (o good) (ll t8) (ll t3) (o ring) (o (.str "stand"))))) := by kernel_rfl
theorem a8_1 (cr : A) (w y r : D) : z8 (env cr (o noneL[1]) (o w) (o y) (o r) .un (o ring) (o good) (ll t3) (ll t3) (o ring) (o (.str "stand"))) = some (.ok (.nx, (env cr (o noneL[1]) (o w) (o y) (o r) .un (o ring) (o good) (ll t8) (ll t3) (o ring) (o (.str "stand"))))) := by kernel_rfl
theorem a8_2 (cr : A) (w y r : D) : z8 (env cr (o noneL[2]) (o w) (o y) (o r) .un (o ring) (o good) (ll t3) (ll t3) (o ring) (o (.str "stand"))) = some (.ok (.nx, (env cr (o noneL[2]) (o w) (o y) (o r) .un (o ring) (o good) (ll t8) (ll t3) (o ring) (o (.str "stand"))))) := by kernel_rfl
theorem a8_3 (cr : A) (w y r : D) : z8 (env cr (o noneL[3]) (o w) (o y) (o r) .un (o ring) (o good) (ll t3) (ll t3) (o ring) (o (.str "stand"))) = some (.ok (.nx, (env cr (o noneL[3]) (o w) (o y) (o r) .un (o ring) (o good) (ll t8) (ll t3) (o ring) (o (.str "stand"))))) := by kernel_rfl
theorem a8_4 (cr : A) (w y r : D) : z8 (env cr (o noneL[4]) (o w) (o y) (o r) .un (o ring) (o good) (ll t3) (ll t3) (o ring) (o (.str "stand"))) = some (.ok (.nx, (env cr (o noneL[4]) (o w) (o y) (o r) .un (o ring) (o good) (ll t8) (ll t3) (o ring) (o (.str "stand"))))) := by kernel_rfl
theorem a8_5 (cr : A) (w y r : D) : z8 (env cr (o noneL[5]) (o w) (o y) (o r) .un (o ring) (o good) (ll t3) (ll t3) (o ring) (o (.str "stand"))) = some (.ok (.nx, (env cr (o noneL[5]) (o w) (o y) (o r) .un (o ring) (o good) (ll t8) (ll t3) (o ring) (o (.str "stand"))))) := by kernel_rfl
theorem a8_6 (cr : A) (w y r : D) : z8 (env cr (o noneL[6]) (o w) (o y) (o r) .un (o ring) (o good) (ll t3) (ll t3) (o ring) (o (.str "stand"))) = some (.ok (.nx, (env cr (o noneL[6]) (o w) (o y) (o r) .un (o ring) (o good) (ll t8) (ll t3) (o ring) (o (.str "stand"))))) := by kernel_rfl
theorem a8_7 (cr : A) (w y r : D) : z8 (env cr (o noneL[7]) (o w) (o y) (o r) .un (o ring) (o good) (ll t3) (ll t3) (o ring) (o (.str "stand"))) = some (.ok (.nx, (env cr (o noneL[7]) (o w) (o y) (o r) .un (o ring) (o good) (ll t8) (ll t3) (o ring) (o (.str "stand"))))) := by kernel_rfl
theorem a8_8 (cr : A) (w y r : D) : z8 (env cr (o noneL[8]) (o w) (o y) (o r) .un (o ring) (o good) (ll t3) (ll t3) (o ring) (o (.str "stand"))) = some (.ok (.nx, (env cr (o noneL[8]) (o w) (o y) (o r) .un (o ring) (o good) (ll t8) (ll t3) (o ring) (o (.str "stand"))))) := by kernel_rfl
theorem a8_9 (cr : A) (w y r : D) : z8 (env cr (o noneL[9]) (o w) (o y) (o r) .un (o ring) (o good) (ll t3) (ll t3) (o ring) (o (.str "stand"))) = some (.ok (.nx, (env cr (o noneL[9]) (o w) (o y) (o r) .un (o ring) (o good) (ll t8) (ll t3) (o ring) (o (.str "stand"))))) := by kernel_rfl
theorem a8_10 (cr : A) (w y r : D) : z8 (env cr (o noneL[10]) (o w) (o y) (o r) .un (o ring) (o good) (ll t3) (ll t3) (o ring) (o (.str "stand"))) = some (.ok (.nx, (env cr (o noneL[10]) (o w) (o y) (o r) .un (o ring) (o good) (ll t8) (ll t3) (o ring) (o (.str "stand"))))) := by kernel_rfl
theorem a8_11 (cr : A) (w y r : D) : z8 (env cr (o noneL[11]) (o w) (o y) (o r) .un (o ring) (o good) (ll t3) (ll t3) (o ring) (o (.str "stand"))) = some (.ok (.nx, (env cr (o noneL[11]) (o w) (o y) (o r) .un (o ring) (o good) (ll t8) (ll t3) (o ring) (o (.str "stand"))))) := by kernel_rfl
theorem a8_12 (cr : A) (w y r : D) : z8 (env cr (o noneL[12]) (o w) (o y) (o r) .un (o ring) (o good) (ll t3) (ll t3) (o ring) (o (.str "stand"))) = some (.ok (.nx, (env cr (o noneL[12]) (o w) (o y) (o r) .un (o ring) (o good) (ll t8) (ll t3) (o ring) (o (.str "stand"))))) := by kernel_rfl
theorem a8_13 (cr : A) (w y r : D) : z8 (env cr (o noneL[13]) (o w) (o y) (o r) .un (o ring) (o good) (ll t3) (ll t3) (o ring) (o (.str "stand"))) = some (.ok (.nx, (env cr (o noneL[13]) (o w) (o y) (o r) .un (o ring) (o good) (ll t8) (ll t3) (o ring) (o (.str "stand"))))) := by kernel_rfl
theorem a8_14 (cr : A) (w y r : D) : z8 (env cr (o noneL[14]) (o w) (o y) (o r) .un (o ring) (o good) (ll t3) (ll t3) (o ring) (o (.str "stand"))) = some (.ok (.nx, (env cr (o noneL[14]) (o w) (o y) (o r) .un (o ring) (o good) (ll t8) (ll t3) (o ring) (o (.str "stand"))))) := by kernel_rfl
theorem a8_15 (cr : A) (w y r : D) : z8 (env cr (o noneL[15]) (o w) (o y) (o r) .un (o ring) (o good) (ll t3) (ll t3) (o ring) (o (.str "stand"))) = some (.ok (.nx, (env cr (o noneL[15]) (o w) (o y) (o r) .un (o ring) (o good) (ll t8) (ll t3) (o ring) (o (.str "stand"))))) := by kernel_rfl
theorem a8_16 (cr : A) (w y r : D) : z8 (env cr (o noneL[16]) (o w) (o y) (o r) .un (o ring) (o good) (ll t3) (ll t3) (o ring) (o (.str "stand"))) = some (.ok (.nx, (env cr (o noneL[16]) (o w) (o y) (o r) .un (o ring) (o good) (ll t8) (ll t3) (o ring) (o (.str "stand"))))) := by kernel_rfl
theorem a8_17 (cr : A) (w y r : D) : z8 (env cr (o noneL[17]) (o w) (o y) (o r) .un (o ring) (o good) (ll t3) (ll t3) (o ring) (o (.str "stand"))) = some (.ok (.nx, (env cr (o noneL[17]) (o w) (o y) (o r) .un (o ring) (o good) (ll t8) (ll t3) (o ring) (o (.str "stand"))))) := by kernel_rfl
theorem a8_18 (cr : A) (w y r : D) : z8 (env cr (o noneL[18]) (o w) (o y) (o r) .un (o ring) (o good) (ll t3) (ll t3) (o ring) (o (.str "stand"))) = some (.ok (.nx, (env cr (o noneL[18]) (o w) (o y) (o r) .un (o ring) (o good) (ll t8) (ll t3) (o ring) (o (.str "stand"))))) := by kernel_rfl
theorem a8_19 (cr : A) (w y r : D) : z8 (env cr (o noneL[19]) (o w) (o y) (o r) .un (o ring) (o good) (ll t3) (ll t3) (o ring) (o (.str "stand"))) = some (.ok (.nx, (env cr (o noneL[19]) (o w) (o y) (o r) .un (o ring) (o good) (ll t8) (ll t3) (o ring) (o (.str "stand"))))) := by kernel_rfl
theorem a8 (cr : A) (w y r : D) : ∀ v ∈ noneL, z8 (env cr (o v) (o w) (o y) (o r) .un (o ring) (o good) (ll t3) (ll t3) (o ring) (o (.str "stand"))) = some (.ok (.nx, (env cr (o v) (o w) (o y) (o r) .un (o ring) (o good) (ll t8) (ll t3) (o ring) (o (.str "stand"))))) := by
  intro v hv
  simp only [noneL, List.mem_cons, List.not_mem_nil, or_false] at hv
  rcases hv with rfl | rfl | rfl | rfl | rfl | rfl | rfl | rfl | rfl | rfl | rfl | rfl | rfl | rfl | rfl | rfl | rfl | rfl | rfl | rfl
  · exact a8_0 cr w y r
  · exact a8_1 cr w y r
  · exact a8_2 cr w y r
  · exact a8_3 cr w y r
  · exact a8_4 cr w y r
  · exact a8_5 cr w y r
  · exact a8_6 cr w y r
  · exact a8_7 cr w y r
  · exact a8_8 cr w y r
  · exact a8_9 cr w y r
  · exact a8_10 cr w y r
  · exact a8_11 cr w y r
  · exact a8_12 cr w y r
  · exact a8_13 cr w y r
  · exact a8_14 cr w y r
  · exact a8_15 cr w y r
  · exact a8_16 cr w y r
  · exact a8_17 cr w y r
  · exact a8_18 cr w y r
  · exact a8_19 cr w y r
theorem a9_0 (cr : A) (x y r : D) : z9 (env cr (o x) (o wideL[0]) (o y) (o r) .un (o ring) (o good) (ll t8) (ll t3) (o ring) (o (.str "stand"))) = some (.ok (.nx, (env cr (o x) (o wideL[0]) (o y) (o r) .un (o ring) (o good) (ll t9) (ll t3) (o ring) (o (.str "stand"))))) := by kernel_rfl
theorem a9_1 (cr : A) (x y r : D) : z9 (env cr (o x) (o wideL[1]) (o y) (o r) .un (o ring) (o good) (ll t8) (ll t3) (o ring) (o (.str "stand"))) = some (.ok (.nx, (env cr (o x) (o wideL[1]) (o y) (o r) .un (o ring) (o good) (ll t9) (ll t3) (o ring) (o (.str "stand"))))) := by kernel_rfl
theorem a9_2 (cr : A) (x y r : D) : z9 (env cr (o x) (o wideL[2]) (o y) (o r) .un (o ring) (o good) (ll t8) (ll t3) (o ring) (o (.str "stand"))) = some (.ok (.nx, (env cr (o x) (o wideL[2]) (o y) (o r) .un (o ring) (o good) (ll t9) (ll t3) (o ring) (o (.str "stand"))))) := by kernel_rfl
theorem a9 (cr : A) (x y r : D) : ∀ v ∈ wideL, z9 (env cr (o x) (o v) (o y) (o r) .un (o ring) (o good) (ll t8) (ll t3) (o ring) (o (.str "stand"))) = some (.ok (.nx, (env cr (o x) (o v) (o y) (o r) .un (o ring) (o good) (ll t9) (ll t3) (o ring) (o (.str "stand"))))) := by
  intro v hv
  simp only [wideL, List.mem_cons, List.not_mem_nil, or_false] at hv
  rcases hv with rfl | rfl | rfl
  · exact a9_0 cr x y r
  · exact a9_1 cr x y r
  · exact a9_2 cr x y r
theorem a10_0 (cr : A) (x w r : D) : z10 (env cr (o x) (o w) (o standL[0]) (o r) .un (o ring) (o good) (ll t9) (ll t3) (o ring) (o (.str "stand"))) = some (.ok (.nx, (env cr (o x) (o w) (o standL[0]) (o r) .un (o ring) (o good) (ll t10) (ll t3) (o ring) (o (.str "stand"))))) := by kernel_rfl
theorem a10_1 (cr : A) (x w r : D) : z10 (env cr (o x) (o w) (o standL[1]) (o r) .un (o ring) (o good) (ll t9) (ll t3) (o ring) (o (.str "stand"))) = some (.ok (.nx, (env cr (o x) (o w) (o standL[1]) (o r) .un (o ring) (o good) (ll t10) (ll t3) (o ring) (o (.str "stand"))))) := by kernel_rfl
theorem a10_2 (cr : A) (x w r : D) : z10 (env cr (o x) (o w) (o standL[2]) (o r) .un (o ring) (o good) (ll t9) (ll t3) (o ring) (o (.str "stand"))) = some (.ok (.nx, (env cr (o x) (o w) (o standL[2]) (o r) .un (o ring) (o good) (ll t10) (ll t3) (o ring) (o (.str "stand"))))) := by kernel_rfl
theorem a10_3 (cr : A) (x w r : D) : z10 (env cr (o x) (o w) (o standL[3]) (o r) .un (o ring) (o good) (ll t9) (ll t3) (o ring) (o (.str "stand"))) = some (.ok (.nx, (env cr (o x) (o w) (o standL[3]) (o r) .un (o ring) (o good) (ll t10) (ll t3) (o ring) (o (.str "stand"))))) := by kernel_rfl
theorem a10_4 (cr : A) (x w r : D) : z10 (env cr (o x) (o w) (o standL[4]) (o r) .un (o ring) (o good) (ll t9) (ll t3) (o ring) (o (.str "stand"))) = some (.ok (.nx, (env cr (o x) (o w) (o standL[4]) (o r) .un (o ring) (o good) (ll t10) (ll t3) (o ring) (o (.str "stand"))))) := by kernel_rfl
theorem a10_5 (cr : A) (x w r : D) : z10 (env cr (o x) (o w) (o standL[5]) (o r) .un (o ring) (o good) (ll t9) (ll t3) (o ring) (o (.str "stand"))) = some (.ok (.nx, (env cr (o x) (o w) (o standL[5]) (o r) .un (o ring) (o good) (ll t10) (ll t3) (o ring) (o (.str "stand"))))) := by kernel_rfl
theorem a10_6 (cr : A) (x w r : D) : z10 (env cr (o x) (o w) (o standL[6]) (o r) .un (o ring) (o good) (ll t9) (ll t3) (o ring) (o (.str "stand"))) = some (.ok (.nx, (env cr (o x) (o w) (o standL[6]) (o r) .un (o ring) (o good) (ll t10) (ll t3) (o ring) (o (.str "stand"))))) := by kernel_rfl
theorem a10_7 (cr : A) (x w r : D) : z10 (env cr (o x) (o w) (o standL[7]) (o r) .un (o ring) (o good) (ll t9) (ll t3) (o ring) (o (.str "stand"))) = some (.ok (.nx, (env cr (o x) (o w) (o standL[7]) (o r) .un (o ring) (o good) (ll t10) (ll t3) (o ring) (o (.str "stand"))))) := by kernel_rfl
theorem a10_8 (cr : A) (x w r : D) : z10 (env cr (o x) (o w) (o standL[8]) (o r) .un (o ring) (o good) (ll t9) (ll t3) (o ring) (o (.str "stand"))) = some (.ok (.nx, (env cr (o x) (o w) (o standL[8]) (o r) .un (o ring) (o good) (ll t10) (ll t3) (o ring) (o (.str "stand"))))) := by kernel_rfl
theorem a10_9 (cr : A) (x w r : D) : z10 (env cr (o x) (o w) (o standL[9]) (o r) .un (o ring) (o good) (ll t9) (ll t3) (o ring) (o (.str "stand"))) = some (.ok (.nx, (env cr (o x) (o w) (o standL[9]) (o r) .un (o ring) (o good) (ll t10) (ll t3) (o ring) (o (.str "stand"))))) := by kernel_rfl
theorem a10_10 (cr : A) (x w r : D) : z10 (env cr (o x) (o w) (o standL[10]) (o r) .un (o ring) (o good) (ll t9) (ll t3) (o ring) (o (.str "stand"))) = some (.ok (.nx, (env cr (o x) (o w) (o standL[10]) (o r) .un (o ring) (o good) (ll t10) (ll t3) (o ring) (o (.str "stand"))))) := by kernel_rfl
theorem a10_11 (cr : A) (x w r : D) : z10 (env cr (o x) (o w) (o standL[11]) (o r) .un (o ring) (o good) (ll t9) (ll t3) (o ring) (o (.str "stand"))) = some (.ok (.nx, (env cr (o x) (o w) (o standL[11]) (o r) .un (o ring) (o good) (ll t10) (ll t3) (o ring) (o (.str "stand"))))) := by kernel_rfl
theorem a10_12 (cr : A) (x w r : D) : z10 (env cr (o x) (o w) (o standL[12]) (o r) .un (o ring) (o good) (ll t9) (ll t3) (o ring) (o (.str "stand"))) = some (.ok (.nx, (env cr (o x) (o w) (o standL[12]) (o r) .un (o ring) (o good) (ll t10) (ll t3) (o ring) (o (.str "stand"))))) := by kernel_rfl
theorem a10_13 (cr : A) (x w r : D) : z10 (env cr (o x) (o w) (o standL[13]) (o r) .un (o ring) (o good) (ll t9) (ll t3) (o ring) (o (.str "stand"))) = some (.ok (.nx, (env cr (o x) (o w) (o standL[13]) (o r) .un (o ring) (o good) (ll t10) (ll t3) (o ring) (o (.str "stand"))))) := by kernel_rfl
theorem a10_14 (cr : A) (x w r : D) : z10 (env cr (o x) (o w) (o standL[14]) (o r) .un (o ring) (o good) (ll t9) (ll t3) (o ring) (o (.str "stand"))) = some (.ok (.nx, (env cr (o x) (o w) (o standL[14]) (o r) .un (o ring) (o good) (ll t10) (ll t3) (o ring) (o (.str "stand"))))) := by kernel_rfl
theorem a10_15 (cr : A) (x w r : D) : z10 (env cr (o x) (o w) (o standL[15]) (o r) .un (o ring) (o good) (ll t9) (ll t3) (o ring) (o (.str "stand"))) = some (.ok (.nx, (env cr (o x) (o w) (o standL[15]) (o r) .un (o ring) (o good) (ll t10) (ll t3) (o ring) (o (.str "stand"))))) := by kernel_rfl
theorem a10 (cr : A) (x w r : D) : ∀ v ∈ standL, z10 (env cr (o x) (o w) (o v) (o r) .un (o ring) (o good) (ll t9) (ll t3) (o ring) (o (.str "stand"))) = some (.ok (.nx, (env cr (o x) (o w) (o v) (o r) .un (o ring) (o good) (ll t10) (ll t3) (o ring) (o (.str "stand"))))) := by
  intro v hv
  simp only [standL, List.mem_cons, List.not_mem_nil, or_false] at hv
  rcases hv with rfl | rfl | rfl | rfl | rfl | rfl | rfl | rfl | rfl | rfl | rfl | rfl | rfl | rfl | rfl | rfl
  · exact a10_0 cr x w r
  · exact a10_1 cr x w r
  · exact a10_2 cr x w r
  · exact a10_3 cr x w r
  · exact a10_4 cr x w r
  · exact a10_5 cr x w r
  · exact a10_6 cr x w r
  · exact a10_7 cr x w r
  · exact a10_8 cr x w r
  · exact a10_9 cr x w r
  · exact a10_10 cr x w r
  · exact a10_11 cr x w r
  · exact a10_12 cr x w r
  · exact a10_13 cr x w r
  · exact a10_14 cr x w r
  · exact a10_15 cr x w r
theorem a11_0 (cr : A) (x w r : D) : z11 (env cr (o x) (o w) (o standL[0]) (o r) .un (o ring) (o good) (ll t10) (ll t3) (o ring) (o (.str "stand"))) = some (.ok (.nx, (env cr (o x) (o w) (o standL[0]) (o r) .un (o ring) (o good) (ll t11) (ll t3) (o ring) (o (.str "stand"))))) := by kernel_rfl
theorem a11_1 (cr : A) (x w r : D) : z11 (env cr (o x) (o w) (o standL[1]) (o r) .un (o ring) (o good) (ll t10) (ll t3) (o ring) (o (.str "stand"))) = some (.ok (.nx, (env cr (o x) (o w) (o standL[1]) (o r) .un (o ring) (o good) (ll t11) (ll t3) (o ring) (o (.str "stand"))))) := by kernel_rfl
theorem a11_2 (cr : A) (x w r : D) : z11 (env cr (o x) (o w) (o standL[2]) (o r) .un (o ring) (o good) (ll t10) (ll t3) (o ring) (o (.str "stand"))) = some (.ok (.nx, (env cr (o x) (o w) (o standL[2]) (o r) .un (o ring) (o good) (ll t11) (ll t3) (o ring) (o (.str "stand"))))) := by kernel_rfl
theorem a11_3 (cr : A) (x w r : D) : z11 (env cr (o x) (o w) (o standL[3]) (o r) .un (o ring) (o good) (ll t10) (ll t3) (o ring) (o (.str "stand"))) = some (.ok (.nx, (env cr (o x) (o w) (o standL[3]) (o r) .un (o ring) (o good) (ll t11) (ll t3) (o ring) (o (.str "stand"))))) := by kernel_rfl
theorem a11_4 (cr : A) (x w r : D) : z11 (env cr (o x) (o w) (o standL[4]) (o r) .un (o ring) (o good) (ll t10) (ll t3) (o ring) (o (.str "stand"))) = some (.ok (.nx, (env cr (o x) (o w) (o standL[4]) (o r) .un (o ring) (o good) (ll t11) (ll t3) (o ring) (o (.str "stand"))))) := by kernel_rfl
theorem a11_5 (cr : A) (x w r : D) : z11 (env cr (o x) (o w) (o standL[5]) (o r) .un (o ring) (o good) (ll t10) (ll t3) (o ring) (o (.str "stand"))) = some (.ok (.nx, (env cr (o x) (o w) (o standL[5]) (o r) .un (o ring) (o good) (ll t11) (ll t3) (o ring) (o (.str "stand"))))) := by kernel_rfl
theorem a11_6 (cr : A) (x w r : D) : z11 (env cr (o x) (o w) (o standL[6]) (o r) .un (o ring) (o good) (ll t10) (ll t3) (o ring) (o (.str "stand"))) = some (.ok (.nx, (env cr (o x) (o w) (o standL[6]) (o r) .un (o ring) (o good) (ll t11) (ll t3) (o ring) (o (.str "stand"))))) := by kernel_rfl
theorem a11_7 (cr : A) (x w r : D) : z11 (env cr (o x) (o w) (o standL[7]) (o r) .un (o ring) (o good) (ll t10) (ll t3) (o ring) (o (.str "stand"))) = some (.ok (.nx, (env cr (o x) (o w) (o standL[7]) (o r) .un (o ring) (o good) (ll t11) (ll t3) (o ring) (o (.str "stand"))))) := by kernel_rfl
theorem a11_8 (cr : A) (x w r : D) : z11 (env cr (o x) (o w) (o standL[8]) (o r) .un (o ring) (o good) (ll t10) (ll t3) (o ring) (o (.str "stand"))) = some (.ok (.nx, (env cr (o x) (o w) (o standL[8]) (o r) .un (o ring) (o good) (ll t11) (ll t3) (o ring) (o (.str "stand"))))) := by kernel_rfl
theorem a11_9 (cr : A) (x w r : D) : z11 (env cr (o x) (o w) (o standL[9]) (o r) .un (o ring) (o good) (ll t10) (ll t3) (o ring) (o (.str "stand"))) = some (.ok (.nx, (env cr (o x) (o w) (o standL[9]) (o r) .un (o ring) (o good) (ll t11) (ll t3) (o ring) (o (.str "stand"))))) := by kernel_rfl
theorem a11_10 (cr : A) (x w r : D) : z11 (env cr (o x) (o w) (o standL[10]) (o r) .un (o ring) (o good) (ll t10) (ll t3) (o ring) (o (.str "stand"))) = some (.ok (.nx, (env cr (o x) (o w) (o standL[10]) (o r) .un (o ring) (o good) (ll t11) (ll t3) (o ring) (o (.str "stand"))))) := by kernel_rfl
theorem a11_11 (cr : A) (x w r : D) : z11 (env cr (o x) (o w) (o standL[11]) (o r) .un (o ring) (o good) (ll t10) (ll t3) (o ring) (o (.str "stand"))) = some (.ok (.nx, (env cr (o x) (o w) (o standL[11]) (o r) .un (o ring) (o good) (ll t11) (ll t3) (o ring) (o (.str "stand"))))) := by kernel_rfl
theorem a11_12 (cr : A) (x w r : D) : z11 (env cr (o x) (o w) (o standL[12]) (o r) .un (o ring) (o good) (ll t10) (ll t3) (o ring) (o (.str "stand"))) = some (.ok (.nx, (env cr (o x) (o w) (o standL[12]) (o r) .un (o ring) (o good) (ll t11) (ll t3) (o ring) (o (.str "stand"))))) := by kernel_rfl
theorem a11_13 (cr : A) (x w r : D) : z11 (env cr (o x) (o w) (o standL[13]) (o r) .un (o ring) (o good) (ll t10) (ll t3) (o ring) (o (.str "stand"))) = some (.ok (.nx, (env cr (o x) (o w) (o standL[13]) (o r) .un (o ring) (o good) (ll t11) (ll t3) (o ring) (o (.str "stand"))))) := by kernel_rfl
theorem a11_14 (cr : A) (x w r : D) : z11 (env cr (o x) (o w) (o standL[14]) (o r) .un (o ring) (o good) (ll t10) (ll t3) (o ring) (o (.str "stand"))) = some (.ok (.nx, (env cr (o x) (o w) (o standL[14]) (o r) .un (o ring) (o good) (ll t11) (ll t3) (o ring) (o (.str "stand"))))) := by kernel_rfl
theorem a11_15 (cr : A) (x w r : D) : z11 (env cr (o x) (o w) (o standL[15]) (o r) .un (o ring) (o good) (ll t10) (ll t3) (o ring) (o (.str "stand"))) = some (.ok (.nx, (env cr (o x) (o w) (o standL[15]) (o r) .un (o ring) (o good) (ll t11) (ll t3) (o ring) (o (.str "stand"))))) := by kernel_rfl
theorem a11 (cr : A) (x w r : D) : ∀ v ∈ standL, z11 (env cr (o x) (o w) (o v) (o r) .un (o ring) (o good) (ll t10) (ll t3) (o ring) (o (.str "stand"))) = some (.ok (.nx, (env cr (o x) (o w) (o v) (o r) .un (o ring) (o good) (ll t11) (ll t3) (o ring) (o (.str "stand"))))) := by
  intro v hv
  simp only [standL, List.mem_cons, List.not_mem_nil, or_false] at hv
  rcases hv with rfl | rfl | rfl | rfl | rfl | rfl | rfl | rfl | rfl | rfl | rfl | rfl | rfl | rfl | rfl | rfl
  · exact a11_0 cr x w r
  · exact a11_1 cr x w r
  · exact a11_2 cr x w r
  · exact a11_3 cr x w r
  · exact a11_4 cr x w r
  · exact a11_5 cr x w r
  · exact a11_6 cr x w r
  · exact a11_7 cr x w r
  · exact a11_8 cr x w r
  · exact a11_9 cr x w r
  · exact a11_10 cr x w r
  · exact a11_11 cr x w r
  · exact a11_12 cr x w r
  · exact a11_13 cr x w r
  · exact a11_14 cr x w r
  · exact a11_15 cr x w r
end K99
set_option maxRecDepth 100000
set_option maxHeartbeats 1000000
set_option linter.all false
namespace K99
open PySem Iv
theorem a12_0 (cr : A) (x w y : D) : z12 (env cr (o x) (o w) (o y) (o roomL[0]) .un (o ring) (o good) (ll t11) (ll t3) (o ring) (o (.str "stand"))) = some (.ok (.nx, (env cr (o x) (o w) (o y) (o roomL[0]) .un (o ring) (o good) (ll (t12 (rq (roomL[0])))) (ll t3) (o ring) (o (.str "stand"))))) := by kernel_rfl
theorem a12_1 (cr : A) (x w y : D) : z12 (env cr (o x) (o w) (o y) (o roomL[1]) .un (o ring) (o good) (ll t11) (ll t3) (o ring) (o (.str "stand"))) = some (.ok (.nx, (env cr (o x) (o w) (o y) (o roomL[1]) .un (o ring) (o good) (ll (t12 (rq (roomL[1])))) (ll t3) (o ring) (o (.str "stand"))))) := by kernel_rfl
theorem a12_2 (cr : A) (x w y : D) : z12 (env cr (o x) (o w) (o y) (o roomL[2]) .un (o ring) (o good) (ll t11) (ll t3) (o ring) (o (.str "stand"))) = some (.ok (.nx, (env cr (o x) (o w) (o y) (o roomL[2]) .un (o ring) (o good) (ll (t12 (rq (roomL[2])))) (ll t3) (o ring) (o (.str "stand"))))) := by kernel_rfl
theorem a12_3 (cr : A) (x w y : D) : z12 (env cr (o x) (o w) (o y) (o roomL[3]) .un (o ring) (o good) (ll t11) (ll t3) (o ring) (o (.str "stand"))) = some (.ok (.nx, (env cr (o x) (o w) (o y) (o roomL[3]) .un (o ring) (o good) (ll (t12 (rq (roomL[3])))) (ll t3) (o ring) (o (.str "stand"))))) := by kernel_rfl
theorem a12_4 (cr : A) (x w y : D) : z12 (env cr (o x) (o w) (o y) (o roomL[4]) .un (o ring) (o good) (ll t11) (ll t3) (o ring) (o (.str "stand"))) = some (.ok (.nx, (env cr (o x) (o w) (o y) (o roomL[4]) .un (o ring) (o good) (ll (t12 (rq (roomL[4])))) (ll t3) (o ring) (o (.str "stand"))))) := by kernel_rfl
theorem a12_5 (cr : A) (x w y : D) : z12 (env cr (o x) (o w) (o y) (o roomL[5]) .un (o ring) (o good) (ll t11) (ll t3) (o ring) (o (.str "stand"))) = some (.ok (.nx, (env cr (o x) (o w) (o y) (o roomL[5]) .un (o ring) (o good) (ll (t12 (rq (roomL[5])))) (ll t3) (o ring) (o (.str "stand"))))) := by kernel_rfl
theorem a12_6 (cr : A) (x w y : D) : z12 (env cr (o x) (o w) (o y) (o roomL[6]) .un (o ring) (o good) (ll t11) (ll t3) (o ring) (o (.str "stand"))) = some (.ok (.nx, (env cr (o x) (o w) (o y) (o roomL[6]) .un (o ring) (o good) (ll (t12 (rq (roomL[6])))) (ll t3) (o ring) (o (.str "stand"))))) := by kernel_rfl
theorem a12_7 (cr : A) (x w y : D) : z12 (env cr (o x) (o w) (o y) (o roomL[7]) .un (o ring) (o good) (ll t11) (ll t3) (o ring) (o (.str "stand"))) = some (.ok (.nx, (env cr (o x) (o w) (o y) (o roomL[7]) .un (o ring) (o good) (ll (t12 (rq (roomL[7])))) (ll t3) (o ring) (o (.str "stand"))))) := by kernel_rfl
theorem a12_8 (cr : A) (x w y : D) : z12 (env cr (o x) (o w) (o y) (o roomL[8]) .un (o ring) (o good) (ll t11) (ll t3) (o ring) (o (.str "stand"))) = some (.ok (.nx, (env cr (o x) (o w) (o y) (o roomL[8]) .un (o ring) (o good) (ll (t12 (rq (roomL[8])))) (ll t3) (o ring) (o (.str "stand"))))) := by kernel_rfl
theorem a12_9 (cr : A) (x w y : D) : z12 (env cr (o x) (o w) (o y) (o roomL[9]) .un (o ring) (o good) (ll t11) (ll t3) (o ring) (o (.str "stand"))) = some (.ok (.nx, (env cr (o x) (o w) (o y) (o roomL[9]) .un (o ring) (o good) (ll (t12 (rq (roomL[9])))) (ll t3) (o ring) (o (.str "stand"))))) := by kernel_rfl
theorem a12 (cr : A) (x w y : D) : ∀ v ∈ roomL, z12 (env cr (o x) (o w) (o y) (o v) .un (o ring) (o good) (ll t11) (ll t3) (o ring) (o (.str "stand"))) = some (.ok (.nx, (env cr (o x) (o w) (o y) (o v) .un (o ring) (o good) (ll (t12 (rq (v)))) (ll t3) (o ring) (o (.str "stand"))))) := by
  intro v hv
  simp only [roomL, List.mem_cons, List.not_mem_nil, or_false] at hv
  rcases hv with rfl | rfl | rfl | rfl | rfl | rfl | rfl | rfl | rfl | rfl
  · exact a12_0 cr x w y
  · exact a12_1 cr x w y
  · exact a12_2 cr x w y
  · exact a12_3 cr x w y
  · exact a12_4 cr x w y
  · exact a12_5 cr x w y
  · exact a12_6 cr x w y
  · exact a12_7 cr x w y
  · exact a12_8 cr x w y
  · exact a12_9 cr x w y
theorem a13_0 (cr : A) (x w y q : D) : z13 (env cr (o x) (o w) (o y) (o roomL[0]) .un (o ring) (o good) (ll (t12 q)) (ll t3) (o ring) (o (.str "stand"))) = some (.ok (.nx, (env cr (o x) (o w) (o y) (o roomL[0]) .un (o ring) (o good) (ll (t13 q)) (ll t3) (o ring) (o (.str "stand"))))) := by kernel_rfl
theorem a13_1 (cr : A) (x w y q : D) : z13 (env cr (o x) (o w) (o y) (o roomL[1]) .un (o ring) (o good) (ll (t12 q)) (ll t3) (o ring) (o (.str "stand"))) = some (.ok (.nx, (env cr (o x) (o w) (o y) (o roomL[1]) .un (o ring) (o good) (ll (t13 q)) (ll t3) (o ring) (o (.str "stand"))))) := by kernel_rfl
theorem a13_2 (cr : A) (x w y q : D) : z13 (env cr (o x) (o w) (o y) (o roomL[2]) .un (o ring) (o good) (ll (t12 q)) (ll t3) (o ring) (o (.str "stand"))) = some (.ok (.nx, (env cr (o x) (o w) (o y) (o roomL[2]) .un (o ring) (o good) (ll (t13 q)) (ll t3) (o ring) (o (.str "stand"))))) := by kernel_rfl
theorem a13_3 (cr : A) (x w y q : D) : z13 (env cr (o x) (o w) (o y) (o roomL[3]) .un (o ring) (o good) (ll (t12 q)) (ll t3) (o ring) (o (.str "stand"))) = some (.ok (.nx, (env cr (o x) (o w) (o y) (o roomL[3]) .un (o ring) (o good) (ll (t13 q)) (ll t3) (o ring) (o (.str "stand"))))) := by kernel_rfl
theorem a13_4 (cr : A) (x w y q : D) : z13 (env cr (o x) (o w) (o y) (o roomL[4]) .un (o ring) (o good) (ll (t12 q)) (ll t3) (o ring) (o (.str "stand"))) = some (.ok (.nx, (env cr (o x) (o w) (o y) (o roomL[4]) .un (o ring) (o good) (ll (t13 q)) (ll t3) (o ring) (o (.str "stand"))))) := by kernel_rfl
theorem a13_5 (cr : A) (x w y q : D) : z13 (env cr (o x) (o w) (o y) (o roomL[5]) .un (o ring) (o good) (ll (t12 q)) (ll t3) (o ring) (o (.str "stand"))) = some (.ok (.nx, (env cr (o x) (o w) (o y) (o roomL[5]) .un (o ring) (o good) (ll (t13 q)) (ll t3) (o ring) (o (.str "stand"))))) := by kernel_rfl
theorem a13_6 (cr : A) (x w y q : D) : z13 (env cr (o x) (o w) (o y) (o roomL[6]) .un (o ring) (o good) (ll (t12 q)) (ll t3) (o ring) (o (.str "stand"))) = some (.ok (.nx, (env cr (o x) (o w) (o y) (o roomL[6]) .un (o ring) (o good) (ll (t13 q)) (ll t3) (o ring) (o (.str "stand"))))) := by kernel_rfl
theorem a13_7 (cr : A) (x w y q : D) : z13 (env cr (o x) (o w) (o y) (o roomL[7]) .un (o ring) (o good) (ll (t12 q)) (ll t3) (o ring) (o (.str "stand"))) = some (.ok (.nx, (env cr (o x) (o w) (o y) (o roomL[7]) .un (o ring) (o good) (ll (t13 q)) (ll t3) (o ring) (o (.str "stand"))))) := by kernel_rfl
theorem a13_8 (cr : A) (x w y q : D) : z13 (env cr (o x) (o w) (o y) (o roomL[8]) .un (o ring) (o good) (ll (t12 q)) (ll t3) (o ring) (o (.str "stand"))) = some (.ok (.nx, (env cr (o x) (o w) (o y) (o roomL[8]) .un (o ring) (o good) (ll (t13 q)) (ll t3) (o ring) (o (.str "stand"))))) := by kernel_rfl
theorem a13_9 (cr : A) (x w y q : D) : z13 (env cr (o x) (o w) (o y) (o roomL[9]) .un (o ring) (o good) (ll (t12 q)) (ll t3) (o ring) (o (.str "stand"))) = some (.ok (.nx, (env cr (o x) (o w) (o y) (o roomL[9]) .un (o ring) (o good) (ll (t13 q)) (ll t3) (o ring) (o (.str "stand"))))) := by kernel_rfl
theorem a13 (cr : A) (x w y q : D) : ∀ v ∈ roomL, z13 (env cr (o x) (o w) (o y) (o v) .un (o ring) (o good) (ll (t12 q)) (ll t3) (o ring) (o (.str "stand"))) = some (.ok (.nx, (env cr (o x) (o w) (o y) (o v) .un (o ring) (o good) (ll (t13 q)) (ll t3) (o ring) (o (.str "stand"))))) := by
  intro v hv
  simp only [roomL, List.mem_cons, List.not_mem_nil, or_false] at hv
  rcases hv with rfl | rfl | rfl | rfl | rfl | rfl | rfl | rfl | rfl | rfl
  · exact a13_0 cr x w y q
  · exact a13_1 cr x w y q
  · exact a13_2 cr x w y q
  · exact a13_3 cr x w y q
  · exact a13_4 cr x w y q
  · exact a13_5 cr x w y q
  · exact a13_6 cr x w y q
  · exact a13_7 cr x w y q
  · exact a13_8 cr x w y q
  · exact a13_9 cr x w y q
theorem a14 (cr : A) (x w y r q : D) : z14 (env cr (o x) (o w) (o y) (o r) .un (o ring) (o good) (ll (t13 q)) (ll t3) (o ring) (o (.str "stand"))) = some (.ok (.nx, (env cr (o x) (o w) (o y) (o r) .un (o ring) (o good) (ll (t14 q)) (ll t3) (o ring) (o (.str "stand"))))) := by kernel_rfl
theorem a15 (cr : A) (x w y r q : D) : z15 (env cr (o x) (o w) (o y) (o r) .un (o ring) (o good) (ll (t14 q)) (ll t3) (o ring) (o (.str "stand"))) = some (.ok (.nx, (env cr (o x) (o w) (o y) (o r) .un (o ring) (o good) (ll (t15 q)) (ll t3) (o ring) (o (.str "stand"))))) := by kernel_rfl
theorem a16 (cr : A) (x w y r q : D) : z16 (env cr (o x) (o w) (o y) (o r) .un (o ring) (o good) (ll (t15 q)) (ll t3) (o ring) (o (.str "stand"))) = some (.ok (.nx, (env cr (o x) (o w) (o y) (o r) .un (o ring) (o good) (ll (t16 q)) (ll t3) (o ring) (o (.str "stand"))))) := by kernel_rfl
theorem a17_0 (cr : A) (x w y : D) : z17 (env cr (o x) (o w) (o y) (o roomL[0]) .un (o ring) (o good) (ll (t16 (rq (roomL[0])))) (ll t3) (o ring) (o (.str "stand"))) = some (.ok (.nx, (env cr (o x) (o w) (o y) (o roomL[0]) .un (o ring) (o good) (ll (t16 (rq (roomL[0])))) (ll t3) (o ring) (o (.str "stand"))))) := by kernel_rfl
theorem a17_1 (cr : A) (x w y : D) : z17 (env cr (o x) (o w) (o y) (o roomL[1]) .un (o ring) (o good) (ll (t16 (rq (roomL[1])))) (ll t3) (o ring) (o (.str "stand"))) = some (.ok (.nx, (env cr (o x) (o w) (o y) (o roomL[1]) .un (o ring) (o good) (ll (t16 (rq (roomL[1])))) (ll t3) (o ring) (o (.str "stand"))))) := by kernel_rfl
theorem a17_2 (cr : A) (x w y : D) : z17 (env cr (o x) (o w) (o y) (o roomL[2]) .un (o ring) (o good) (ll (t16 (rq (roomL[2])))) (ll t3) (o ring) (o (.str "stand"))) = some (.ok (.nx, (env cr (o x) (o w) (o y) (o roomL[2]) .un (o ring) (o good) (ll (t16 (rq (roomL[2])))) (ll t3) (o ring) (o (.str "stand"))))) := by kernel_rfl
theorem a17_3 (cr : A) (x w y : D) : z17 (env cr (o x) (o w) (o y) (o roomL[3]) .un (o ring) (o good) (ll (t16 (rq (roomL[3])))) (ll t3) (o ring) (o (.str "stand"))) = some (.ok (.nx, (env cr (o x) (o w) (o y) (o roomL[3]) .un (o ring) (o good) (ll (t16 (rq (roomL[3])))) (ll t3) (o ring) (o (.str "stand"))))) := by kernel_rfl
theorem a17_4 (cr : A) (x w y : D) : z17 (env cr (o x) (o w) (o y) (o roomL[4]) .un (o ring) (o good) (ll (t16 (rq (roomL[4])))) (ll t3) (o ring) (o (.str "stand"))) = some (.ok (.nx, (env cr (o x) (o w) (o y) (o roomL[4]) .un (o ring) (o good) (ll (t16 (rq (roomL[4])))) (ll t3) (o ring) (o (.str "stand"))))) := by kernel_rfl
theorem a17_5 (cr : A) (x w y : D) : z17 (env cr (o x) (o w) (o y) (o roomL[5]) .un (o ring) (o good) (ll (t16 (rq (roomL[5])))) (ll t3) (o ring) (o (.str "stand"))) = some (.ok (.nx, (env cr (o x) (o w) (o y) (o roomL[5]) .un (o ring) (o good) (ll (t16 (rq (roomL[5])))) (ll t3) (o ring) (o (.str "stand"))))) := by kernel_rfl
theorem a17_6 (cr : A) (x w y : D) : z17 (env cr (o x) (o w) (o y) (o roomL[6]) .un (o ring) (o good) (ll (t16 (rq (roomL[6])))) (ll t3) (o ring) (o (.str "stand"))) = some (.ok (.nx, (env cr (o x) (o w) (o y) (o roomL[6]) .un (o ring) (o good) (ll (t16 (rq (roomL[6])))) (ll t3) (o ring) (o (.str "stand"))))) := by kernel_rfl
theorem a17_7 (cr : A) (x w y : D) : z17 (env cr (o x) (o w) (o y) (o roomL[7]) .un (o ring) (o good) (ll (t16 (rq (roomL[7])))) (ll t3) (o ring) (o (.str "stand"))) = some (.ok (.nx, (env cr (o x) (o w) (o y) (o roomL[7]) .un (o ring) (o good) (ll (t16 (rq (roomL[7])))) (ll t3) (o ring) (o (.str "stand"))))) := by kernel_rfl
theorem a17_8 (cr : A) (x w y : D) : z17 (env cr (o x) (o w) (o y) (o roomL[8]) .un (o ring) (o good) (ll (t16 (rq (roomL[8])))) (ll t3) (o ring) (o (.str "stand"))) = some (.ok (.nx, (env cr (o x) (o w) (o y) (o roomL[8]) .un (o ring) (o good) (ll (t16 (rq (roomL[8])))) (ll t3) (o ring) (o (.str "stand"))))) := by kernel_rfl
theorem a17_9 (cr : A) (x w y : D) : z17 (env cr (o x) (o w) (o y) (o roomL[9]) .un (o ring) (o good) (ll (t16 (rq (roomL[9])))) (ll t3) (o ring) (o (.str "stand"))) = some (.ok (.nx, (env cr (o x) (o w) (o y) (o roomL[9]) .un (o ring) (o good) (ll (t16 (rq (roomL[9])))) (ll t3) (o ring) (o (.str "stand"))))) := by kernel_rfl
theorem a17 (cr : A) (x w y : D) : ∀ v ∈ roomL, z17 (env cr (o x) (o w) (o y) (o v) .un (o ring) (o good) (ll (t16 (rq (v)))) (ll t3) (o ring) (o (.str "stand"))) = some (.ok (.nx, (env cr (o x) (o w) (o y) (o v) .un (o ring) (o good) (ll (t16 (rq (v)))) (ll t3) (o ring) (o (.str "stand"))))) := by
  intro v hv
  simp only [roomL, List.mem_cons, List.not_mem_nil, or_false] at hv
  rcases hv with rfl | rfl | rfl | rfl | rfl | rfl | rfl | rfl | rfl | rfl
  · exact a17_0 cr x w y
  · exact a17_1 cr x w y
  · exact a17_2 cr x w y
  · exact a17_3 cr x w y
  · exact a17_4 cr x w y
  · exact a17_5 cr x w y
  · exact a17_6 cr x w y
  · exact a17_7 cr x w y
  · exact a17_8 cr x w y
  · exact a17_9 cr x w y
end K99
set_option maxRecDepth 100000
set_option maxHeartbeats 1000000
set_option linter.all false
namespace K99
open PySem Iv
def okV (v : D) : Prop := ∀ s0 s1 s2 s3 s4 s8 s9 s10 s11 s12 : Sl, bo18 [s0, s1, s2, s3, s4, o v, o ring, o good, s8, s9, s10, s11, s12] = some (.ok (.nx, [s0, s1, s2, s3, s4, o v, o ring, o good, s8, s9, s10, s11, s12]))
theorem v1_0 : okV noneL[0] := by intro s0 s1 s2 s3 s4 s8 s9 s10 s11 s12; kernel_rfl
theorem v1_1 : okV noneL[1] := by intro s0 s1 s2 s3 s4 s8 s9 s10 s11 s12; kernel_rfl
theorem v1_2 : okV noneL[2] := by intro s0 s1 s2 s3 s4 s8 s9 s10 s11 s12; kernel_rfl
theorem v1_3 : okV noneL[3] := by intro s0 s1 s2 s3 s4 s8 s9 s10 s11 s12; kernel_rfl
theorem v1_4 : okV noneL[4] := by intro s0 s1 s2 s3 s4 s8 s9 s10 s11 s12; kernel_rfl
theorem v1_5 : okV noneL[5] := by intro s0 s1 s2 s3 s4 s8 s9 s10 s11 s12; kernel_rfl
theorem v1_6 : okV noneL[6] := by intro s0 s1 s2 s3 s4 s8 s9 s10 s11 s12; kernel_rfl
theorem v1_7 : okV noneL[7] := by intro s0 s1 s2 s3 s4 s8 s9 s10 s11 s12; kernel_rfl
theorem v1_8 : okV noneL[8] := by intro s0 s1 s2 s3 s4 s8 s9 s10 s11 s12; kernel_rfl
theorem v1_9 : okV noneL[9] := by intro s0 s1 s2 s3 s4 s8 s9 s10 s11 s12; kernel_rfl
theorem v1_10 : okV noneL[10] := by intro s0 s1 s2 s3 s4 s8 s9 s10 s11 s12; kernel_rfl
theorem v1_11 : okV noneL[11] := by intro s0 s1 s2 s3 s4 s8 s9 s10 s11 s12; kernel_rfl
theorem v1_12 : okV noneL[12] := by intro s0 s1 s2 s3 s4 s8 s9 s10 s11 s12; kernel_rfl
theorem v1_13 : okV noneL[13] := by intro s0 s1 s2 s3 s4 s8 s9 s10 s11 s12; kernel_rfl
theorem v1_14 : okV noneL[14] := by intro s0 s1 s2 s3 s4 s8 s9 s10 s11 s12; kernel_rfl
theorem v1_15 : okV noneL[15] := by intro s0 s1 s2 s3 s4 s8 s9 s10 s11 s12; kernel_rfl
theorem v1_16 : okV noneL[16] := by intro s0 s1 s2 s3 s4 s8 s9 s10 s11 s12; kernel_rfl
theorem v1_17 : okV noneL[17] := by intro s0 s1 s2 s3 s4 s8 s9 s10 s11 s12; kernel_rfl
theorem v1_18 : okV noneL[18] := by intro s0 s1 s2 s3 s4 s8 s9 s10 s11 s12; kernel_rfl
theorem v1_19 : okV noneL[19] := by intro s0 s1 s2 s3 s4 s8 s9 s10 s11 s12; kernel_rfl
theorem v1 : ∀ v ∈ noneL, okV v := by
  intro v hv
  simp only [noneL, List.mem_cons, List.not_mem_nil, or_false] at hv
  rcases hv with rfl | rfl | rfl | rfl | rfl | rfl | rfl | rfl | rfl | rfl | rfl | rfl | rfl | rfl | rfl | rfl | rfl | rfl | rfl | rfl
  · exact v1_0
  · exact v1_1
  · exact v1_2
  · exact v1_3
  · exact v1_4
  · exact v1_5
  · exact v1_6
  · exact v1_7
  · exact v1_8
  · exact v1_9
  · exact v1_10
  · exact v1_11
  · exact v1_12
  · exact v1_13
  · exact v1_14
  · exact v1_15
  · exact v1_16
  · exact v1_17
  · exact v1_18
  · exact v1_19
theorem v2_0 : okV wideL[0] := by intro s0 s1 s2 s3 s4 s8 s9 s10 s11 s12; kernel_rfl
theorem v2_1 : okV wideL[1] := by intro s0 s1 s2 s3 s4 s8 s9 s10 s11 s12; kernel_rfl
theorem v2_2 : okV wideL[2] := by intro s0 s1 s2 s3 s4 s8 s9 s10 s11 s12; kernel_rfl
theorem v2 : ∀ v ∈ wideL, okV v := by
  intro v hv
  simp only [wideL, List.mem_cons, List.not_mem_nil, or_false] at hv
  rcases hv with rfl | rfl | rfl
  · exact v2_0
  · exact v2_1
  · exact v2_2
theorem v3_0 : okV standL[0] := by intro s0 s1 s2 s3 s4 s8 s9 s10 s11 s12; kernel_rfl
theorem v3_1 : okV standL[1] := by intro s0 s1 s2 s3 s4 s8 s9 s10 s11 s12; kernel_rfl
theorem v3_2 : okV standL[2] := by intro s0 s1 s2 s3 s4 s8 s9 s10 s11 s12; kernel_rfl
theorem v3_3 : okV standL[3] := by intro s0 s1 s2 s3 s4 s8 s9 s10 s11 s12; kernel_rfl
theorem v3_4 : okV standL[4] := by intro s0 s1 s2 s3 s4 s8 s9 s10 s11 s12; kernel_rfl
theorem v3_5 : okV standL[5] := by intro s0 s1 s2 s3 s4 s8 s9 s10 s11 s12; kernel_rfl
theorem v3_6 : okV standL[6] := by intro s0 s1 s2 s3 s4 s8 s9 s10 s11 s12; kernel_rfl
theorem v3_7 : okV standL[7] := by intro s0 s1 s2 s3 s4 s8 s9 s10 s11 s12; kernel_rfl
theorem v3_8 : okV standL[8] := by intro s0 s1 s2 s3 s4 s8 s9 s10 s11 s12; kernel_rfl
theorem v3_9 : okV standL[9] := by intro s0 s1 s2 s3 s4 s8 s9 s10 s11 s12; kernel_rfl
theorem v3_10 : okV standL[10] := by intro s0 s1 s2 s3 s4 s8 s9 s10 s11 s12; kernel_rfl
theorem v3_11 : okV standL[11] := by intro s0 s1 s2 s3 s4 s8 s9 s10 s11 s12; kernel_rfl
theorem v3_12 : okV standL[12] := by intro s0 s1 s2 s3 s4 s8 s9 s10 s11 s12; kernel_rfl
theorem v3_13 : okV standL[13] := by intro s0 s1 s2 s3 s4 s8 s9 s10 s11 s12; kernel_rfl
theorem v3_14 : okV standL[14] := by intro s0 s1 s2 s3 s4 s8 s9 s10 s11 s12; kernel_rfl
theorem v3_15 : okV standL[15] := by intro s0 s1 s2 s3 s4 s8 s9 s10 s11 s12; kernel_rfl
theorem v3 : ∀ v ∈ standL, okV v := by
  intro v hv
  simp only [standL, List.mem_cons, List.not_mem_nil, or_false] at hv
  rcases hv with rfl | rfl | rfl | rfl | rfl | rfl | rfl | rfl | rfl | rfl | rfl | rfl | rfl | rfl | rfl | rfl
  · exact v3_0
  · exact v3_1
  · exact v3_2
  · exact v3_3
  · exact v3_4
  · exact v3_5
  · exact v3_6
  · exact v3_7
  · exact v3_8
  · exact v3_9
  · exact v3_10
  · exact v3_11
  · exact v3_12
  · exact v3_13
  · exact v3_14
  · exact v3_15
theorem v4_0 : okV roomL[0] := by intro s0 s1 s2 s3 s4 s8 s9 s10 s11 s12; kernel_rfl
theorem v4_1 : okV roomL[1] := by intro s0 s1 s2 s3 s4 s8 s9 s10 s11 s12; kernel_rfl
theorem v4_2 : okV roomL[2] := by intro s0 s1 s2 s3 s4 s8 s9 s10 s11 s12; kernel_rfl
theorem v4_3 : okV roomL[3] := by intro s0 s1 s2 s3 s4 s8 s9 s10 s11 s12; kernel_rfl
theorem v4_4 : okV roomL[4] := by intro s0 s1 s2 s3 s4 s8 s9 s10 s11 s12; kernel_rfl
theorem v4_5 : okV roomL[5] := by intro s0 s1 s2 s3 s4 s8 s9 s10 s11 s12; kernel_rfl
theorem v4_6 : okV roomL[6] := by intro s0 s1 s2 s3 s4 s8 s9 s10 s11 s12; kernel_rfl
theorem v4_7 : okV roomL[7] := by intro s0 s1 s2 s3 s4 s8 s9 s10 s11 s12; kernel_rfl
theorem v4_8 : okV roomL[8] := by intro s0 s1 s2 s3 s4 s8 s9 s10 s11 s12; kernel_rfl
theorem v4_9 : okV roomL[9] := by intro s0 s1 s2 s3 s4 s8 s9 s10 s11 s12; kernel_rfl
theorem v4 : ∀ v ∈ roomL, okV v := by
  intro v hv
  simp only [roomL, List.mem_cons, List.not_mem_nil, or_false] at hv
  rcases hv with rfl | rfl | rfl | rfl | rfl | rfl | rfl | rfl | rfl | rfl
  · exact v4_0
  · exact v4_1
  · exact v4_2
  · exact v4_3
  · exact v4_4
  · exact v4_5
  · exact v4_6
  · exact v4_7
  · exact v4_8
  · exact v4_9
theorem v5_0 : okV oddL[0] := by intro s0 s1 s2 s3 s4 s8 s9 s10 s11 s12; kernel_rfl
theorem v5_1 : okV oddL[1] := by intro s0 s1 s2 s3 s4 s8 s9 s10 s11 s12; kernel_rfl
theorem v5_2 : okV oddL[2] := by intro s0 s1 s2 s3 s4 s8 s9 s10 s11 s12; kernel_rfl
theorem v5_3 : okV oddL[3] := by intro s0 s1 s2 s3 s4 s8 s9 s10 s11 s12; kernel_rfl
theorem v5_4 : okV oddL[4] := by intro s0 s1 s2 s3 s4 s8 s9 s10 s11 s12; kernel_rfl
theorem v5_5 : okV oddL[5] := by intro s0 s1 s2 s3 s4 s8 s9 s10 s11 s12; kernel_rfl
theorem v5_6 : okV oddL[6] := by intro s0 s1 s2 s3 s4 s8 s9 s10 s11 s12; kernel_rfl
theorem v5_7 : okV oddL[7] := by intro s0 s1 s2 s3 s4 s8 s9 s10 s11 s12; kernel_rfl
theorem v5_8 : okV oddL[8] := by intro s0 s1 s2 s3 s4 s8 s9 s10 s11 s12; kernel_rfl
theorem v5_9 : okV oddL[9] := by intro s0 s1 s2 s3 s4 s8 s9 s10 s11 s12; kernel_rfl
theorem v5_10 : okV oddL[10] := by intro s0 s1 s2 s3 s4 s8 s9 s10 s11 s12; kernel_rfl
theorem v5 : ∀ v ∈ oddL, okV v := by
  intro v hv
  simp only [oddL, List.mem_cons, List.not_mem_nil, or_false] at hv
  rcases hv with rfl | rfl | rfl | rfl | rfl | rfl | rfl | rfl | rfl | rfl | rfl
  · exact v5_0
  · exact v5_1
  · exact v5_2
  · exact v5_3
  · exact v5_4
  · exact v5_5
  · exact v5_6
  · exact v5_7
  · exact v5_8
  · exact v5_9
  · exact v5_10
end K99
set_option maxRecDepth 100000
set_option maxHeartbeats 1000000
set_option linter.all false
/-! Iv: draws in statements; the laws' walk over the script's first cells. -/
namespace Iv
open PySem
/-- slot i + 1 is a picked item -/
theorem setPick {k1 m1 k2 m2 k3 dv : Int} (O : PullOk k1 m1 k2 m2 k3 dv) {k : Nat} {i : Nat} {g : M (List R)} {Γt : Iv.Env} {x : A} {ds : List PyData} (hx : Bag (k + 1) x) (hn : ds ≠ []) (h1 : ds.length < 2 ^ 60)
    (hg : ∀ a b c : Int, g (.c ⟨false⟩ (.l [.int a, .int b, .int c]) :: Γt) = some (.ok ([.sl 0, .a (.d (.list ds))], .c ⟨false⟩ (.l [.int a, .int b, .int c]) :: Γt))) (hs : canSet Γt i = true) :
    ∃ (v : PyData) (x' : A), v ∈ ds ∧ Bag k x' ∧ evSet (i + 1) (evCall (FPick (FPull k1 m1 k2 m2 k3 dv)) g) (.c ⟨false⟩ x :: Γt) = some (.ok (.nx, .c ⟨false⟩ x' :: Γt.set i (.c ⟨true⟩ (.d v)))) := by
  obtain ⟨r, x', hr, hb, e⟩ := pick_ok O hx ds hn h1
  obtain ⟨a, b, c, _, rfl⟩ := hx
  obtain ⟨a', b', c', h', rfl⟩ := hb
  refine ⟨ds[r], _, List.getElem_mem _, ⟨a', b', c', h', rfl⟩, ?_⟩
  have hs2 : canSet (.c ⟨false⟩ (.l [.int a', .int b', .int c']) :: Γt) (i + 1) = true := hs
  simp [evSet, evCall, hg, bnd, argsA, argA, slA, slots, nodupB, e, sameC, putB, A.isC, setA, hs2]
abbrev scr (ns : List Int) : Sl := .c ⟨false⟩ (.d (.list (ns.map .int)))
/-- range(max(1, min(n, len(script)))) -/
def itSp (n : Int) : M (List PyData) := (itRng1 (evCons (evOp opMax2 (evCons (evCon (.int 1)) (evCons (evOp opMin2 (evCons (evCon (.int n)) (evCons (evOp opLenA (evCons (evVar 0) evNil)) evNil))) evNil))) evNil))
theorem rng_nat (m : Nat) : rngD 0 (m : Int) = (List.range m).map fun k => .int (k : Nat) := by simp [rngD]
theorem rng1_a {Γ : Iv.Env} {m : Nat} (ok : okRng (m : Int) = true) : (if okRng (m : Int) = true then some (Except.ok (rngD 0 (m : Int), Γ)) else (none : Res (List PyData))) = some (.ok ((List.range m).map fun k => .int (k : Nat), Γ)) := by
  rw [if_pos ok, rng_nat]
theorem rng1_b {Γ Γ1 : Iv.Env} {m : Nat} {g : M (List R)} (e : g Γ = some (.ok ([.a (.d (.int (m : Int)))], Γ1))) : itRng1 g Γ = (if okRng (m : Int) = true then some (Except.ok (rngD 0 (m : Int), Γ1)) else (none : Res (List PyData))) := by
  simp [itRng1, e, bnd, conts, cont, A.rd]
theorem okRng_nat {m : Nat} (h : m < 1000000) : okRng (m : Int) = true := by
  unfold okRng
  rw [Bool.and_eq_true, decide_eq_true_eq, decide_eq_true_eq]
  exact ⟨by omega, by omega⟩
theorem rng1_of {g : M (List R)} {Γ Γ1 : Iv.Env} {m : Nat} (h : m < 1000000) (e : g Γ = some (.ok ([.a (.d (.int (m : Int)))], Γ1))) : itRng1 g Γ = some (.ok ((List.range m).map fun k => .int (k : Nat), Γ1)) := (rng1_b e).trans (rng1_a (okRng_nat h))
theorem itSp_ok (n : Nat) (h0 : 1 ≤ n) (h9 : n < 1000) (ns : List Int) (Γt : Iv.Env) : ∃ ks : List Nat, (∀ k ∈ ks, k < n) ∧ itSp n (scr ns :: Γt) = some (.ok (ks.map fun k => .int (k : Nat), scr ns :: Γt)) := by
  have ln : opLenA [.list (ns.map .int)] = some (.d (.int ns.length)) := by simp [opLenA, opLen]
  refine ⟨List.range (max 1 (min n ns.length)), fun k hk => by have := List.mem_range.mp hk; omega, rng1_of (by omega) ?_⟩
  have e : (if (if (ns.length : Int) < (n : Int) then (ns.length : Int) else (n : Int)) > 1 then (if (ns.length : Int) < (n : Int) then (ns.length : Int) else (n : Int)) else 1) = ((max 1 (min n ns.length) : Nat) : Int) := by
    generalize ns.length = l
    split <;> split <;> omega
  rw [← e]
  simp [evOp, evCons, evVar, evCon, evNil, bnd, fz, conts, cont, R.fz, A.isC, A.rd, slA, ln, opMin2, opMax2]
def canS (s : Sl) : Prop := s = .un ∨ ∃ x, s = .c ⟨true⟩ x
/-- a loop whose turns hand on a predicate of the environment -/
theorem loop_inv {g : Bd} {b : M Fw} (P : Iv.Env → Prop) : ∀ {ds : List PyData}, (∀ d ∈ ds, ∀ Γ, P Γ → ∃ Γ1 Γ2, g d Γ = some Γ1 ∧ b Γ1 = some (.ok (.nx, Γ2)) ∧ P Γ2) → ∀ {Γ}, P Γ → ∃ Γ', P Γ' ∧ evLoop g b ds Γ = some (.ok (.nx, Γ'))
  | [], _, Γ, h => ⟨Γ, h, rfl⟩
  | d :: ds, hs, Γ, h => by
    obtain ⟨Γ1, Γ2, e1, e2, h2⟩ := hs d (List.mem_cons_self ..) Γ h
    obtain ⟨Γ', h', e⟩ := loop_inv P (fun d hd => hs d (List.mem_cons_of_mem _ hd)) h2
    refine ⟨Γ', h', ?_⟩
    unfold evLoop
    rw [e1]
    show bnd (b Γ1) _ = _
    rw [e2]
    exact e
theorem for_of {f : M (List PyData)} {g : Bd} {b : M Fw} {Γ Γ1 Γ' : Iv.Env} {ds : List PyData} {fl : Fw} (e1 : f Γ = some (.ok (ds, Γ1))) (e2 : evLoop g b ds Γ1 = some (.ok (fl, Γ'))) : evFor f g b Γ = some (.ok (fl, Γ')) := by
  unfold evFor
  rw [e1]
  exact e2
theorem loop_step {g : Bd} {b : M Fw} {d : PyData} {ds : List PyData} {Γ Γ1 Γ2 : Iv.Env} (e1 : g d Γ = some Γ1) (e2 : b Γ1 = some (.ok (.nx, Γ2))) : evLoop g b (d :: ds) Γ = evLoop g b ds Γ2 := by
  conv => lhs; unfold evLoop
  rw [e1]
  show bnd (b Γ1) _ = _
  rw [e2]
  rfl
end Iv
set_option maxRecDepth 100000
set_option maxHeartbeats 2000000
set_option linter.all false
/-! Iv: the row of the draws, made of a cell of the script. -/
namespace Iv
open PySem
def bBag : M Fw := (evSeq (evSet 2 (evIte (evB (evOp opLt (evCons (evVar 1) (evCons (evOp opLenA (evCons (evVar 0) evNil)) evNil)))) (evOp opInt (evCons (evOp opIxA (evCons (evVar 0) (evCons (evVar 1) evNil))) evNil)) (evOp opAdd (evCons (evOp opMul (evCons (evCon (.int 919)) (evCons (evVar 1) evNil))) (evCons (evCon (.int 103)) evNil))))) (evSeq (evSet 3 (evOp opMod (evCons (evOp opInt (evCons (evOp opAbs (evCons (evVar 2) evNil)) evNil)) (evCons (evOp opPow (evCons (evOp opPow (evCons (evCon (.int 10)) (evCons (evCon (.int 39)) evNil))) (evCons (evCon (.int 8)) evNil))) evNil)))) (evSeq (evSet 4 (evOp opAdd (evCons (evOp opAdd (evCons (evOp opAdd (evCons (evOp opMul (evCons (evOp opMod (evCons (evVar 3) (evCons (evCon (.int 2305843009213693951)) evNil))) (evCons (evCon (.int 179)) evNil))) (evCons (evOp opMul (evCons (evCon (.int 619)) (evCons (evVar 1) evNil))) evNil))) (evCons (evOp opMul (evCons (evCon (.int 131)) (evCons (evOp opInt (evCons (evOp opLt (evCons (evVar 2) (evCons (evCon (.int 0)) evNil))) evNil)) evNil))) evNil))) (evCons (evCon (.int 83)) evNil)))) (evSeq (evRet (evLst (evCons (evOp opMax2 (evCons (evCon (.int 0)) (evCons (evOp opSub (evCons (evVar 3) (evCons (evOp opPow (evCons (evCon (.int 10)) (evCons (evCon (.int 16)) evNil))) evNil))) evNil))) (evCons (evVar 4) (evCons (evCon (.int 0)) evNil))))) evNext))))
def bCrock : M Fw := (evSeq (evSet 2 (evIte (evB (evOp opLt (evCons (evVar 1) (evCons (evOp opLenA (evCons (evVar 0) evNil)) evNil)))) (evOp opInt (evCons (evOp opIxA (evCons (evVar 0) (evCons (evVar 1) evNil))) evNil)) (evOp opAdd (evCons (evOp opMul (evCons (evCon (.int 967)) (evCons (evVar 1) evNil))) (evCons (evCon (.int 83)) evNil))))) (evSeq (evSet 3 (evOp opMod (evCons (evOp opInt (evCons (evOp opAbs (evCons (evVar 2) evNil)) evNil)) (evCons (evOp opPow (evCons (evOp opPow (evCons (evCon (.int 10)) (evCons (evCon (.int 58)) evNil))) (evCons (evCon (.int 5)) evNil))) evNil)))) (evSeq (evRet (evLst (evCons (evOp opMax2 (evCons (evCon (.int 0)) (evCons (evOp opSub (evCons (evVar 3) (evCons (evOp opPow (evCons (evCon (.int 10)) (evCons (evCon (.int 17)) evNil))) evNil))) evNil))) (evCons (evOp opAdd (evCons (evOp opAdd (evCons (evOp opAdd (evCons (evOp opMul (evCons (evOp opMod (evCons (evOp opInt (evCons (evVar 3) evNil)) (evCons (evCon (.int 2305843009213693907)) evNil))) (evCons (evCon (.int 101)) evNil))) (evCons (evOp opMul (evCons (evCon (.int 1171)) (evCons (evVar 1) evNil))) evNil))) (evCons (evOp opMul (evCons (evCon (.int 43)) (evCons (evOp opInt (evCons (evOp opLt (evCons (evVar 2) (evCons (evCon (.int 0)) evNil))) evNil)) evNil))) evNil))) (evCons (evCon (.int 19)) evNil))) (evCons (evCon (.int 0)) evNil))))) evNext)))
def FBag : Fn := evFn 2 5 bBag
def FCrock : Fn := evFn 2 4 bCrock
theorem small {x : Int} (h0 : 0 ≤ x) (h : x < 2 ^ 64) : x.natAbs < 2 ^ 4000 := by
  have := p64
  omega
theorem bag0 {a b : Int} : Bag (2 ^ 2000) (.l [.int a, .int b, .int 0]) := ⟨a, b, 0, by rw [Nat.zero_add]; exact Nat.pow_lt_pow_right (by decide) (by decide), rfl⟩
/-- the cell at a place, or a number of its own -/
theorem cell_ok {k1 k2 : Int} (hk1 : 0 ≤ k1) (hk2 : k1 < 2 ^ 64) (ns : List Int) (spot : Nat) (hs : spot < 1000) (Γt : Iv.Env) : ∃ cell : Int,
    evIte (evB (evOp opLt (evCons (evVar 1) (evCons (evOp opLenA (evCons (evVar 0) evNil)) evNil)))) (evOp opInt (evCons (evOp opIxA (evCons (evVar 0) (evCons (evVar 1) evNil))) evNil)) (evOp opAdd (evCons (evOp opMul (evCons (evCon (.int k1)) (evCons (evVar 1) evNil))) (evCons (evCon (.int k2)) evNil))) (scr ns :: .c ⟨false⟩ (.d (.int spot)) :: Γt)
      = some (.ok (.a (.d (.int cell)), scr ns :: .c ⟨false⟩ (.d (.int spot)) :: Γt)) := by
  have m0 := mul_ok (small hk1 hk2) (small (x := (spot : Int)) (by omega) (by omega))
  have ln : opLenA [.list (ns.map .int)] = some (.d (.int ns.length)) := by simp [opLenA, opLen]
  by_cases h : spot < ns.length
  · have ix : opIxA [.list (ns.map .int), .int (spot : Nat)] = some (.d (.int ns[spot])) := by simp [opIxA, opIx, ixD, h]
    refine ⟨ns[spot], ?_⟩
    simp [evIte, evB, evOp, evCons, evVar, evCon, evNil, bnd, fz, conts, cont, R.fz, A.isC, A.rd, slA, isB, opLt, cmp_int, ltD, ln, h, ix, opInt]
  · refine ⟨k1 * spot + k2, ?_⟩
    simp [evIte, evB, evOp, evCons, evVar, evCon, evNil, bnd, fz, conts, cont, R.fz, A.isC, A.rd, slA, isB, opLt, cmp_int, ltD, ln, h, m0, opAdd]
theorem pwB : evOp opPow (evCons (evOp opPow (evCons (evCon (.int 10)) (evCons (evCon (.int 39)) evNil))) (evCons (evCon (.int 8)) evNil)) = evCon (.int ((10 ^ 39) ^ 8)) := by
  funext Γ
  kernel_rfl
theorem pwB2 : evOp opPow (evCons (evCon (.int 10)) (evCons (evCon (.int 16)) evNil)) = evCon (.int (10 ^ 16)) := by
  funext Γ
  kernel_rfl
theorem pwC : evOp opPow (evCons (evOp opPow (evCons (evCon (.int 10)) (evCons (evCon (.int 58)) evNil))) (evCons (evCon (.int 5)) evNil)) = evCon (.int ((10 ^ 58) ^ 5)) := by
  funext Γ
  kernel_rfl
theorem pwC2 : evOp opPow (evCons (evCon (.int 10)) (evCons (evCon (.int 17)) evNil)) = evCon (.int (10 ^ 17)) := by
  funext Γ
  kernel_rfl
theorem bag_ok (ns : List Int) (spot : Nat) (hs : spot < 1000) : ∃ x : A, Bag (2 ^ 2000) x ∧ FBag [.d (.list (ns.map .int)), .d (.int spot)] = some (.ok (x, [.d (.list (ns.map .int)), .d (.int spot)])) := by
  have sm := fun x : Int => Int.emod_nonneg x (show (2305843009213693951 : Int) ≠ 0 by decide)
  have sl := fun x : Int => Int.emod_lt_of_pos x (show (0 : Int) < 2305843009213693951 by decide)
  have m1 := fun x : Int => mul_ok (i := x % 2305843009213693951) (j := 179) (small (sm x) (Int.lt_trans (sl x) (by decide))) (small (by decide) (by decide))
  have m2 := mul_ok (i := 619) (j := spot) (small (by decide) (by decide)) (small (by omega) (by omega))
  have m3 := mul_ok (i := 131) (j := 1) (small (by decide) (by decide)) (small (by decide) (by decide))
  have m4 := mul_ok (i := 131) (j := 0) (small (by decide) (by decide)) (small (by decide) (by decide))
  have P : (0 : Int) < (10 ^ 39) ^ 8 := by decide +kernel
  have pw := pwB
  generalize hP : ((10 : Int) ^ 39) ^ 8 = p at P pw
  obtain ⟨cell, ec⟩ := cell_ok (k1 := 919) (k2 := 103) (by decide) (by decide) ns spot hs [.un, .un, .un]
  have st1 : evSet 2 (evIte (evB (evOp opLt (evCons (evVar 1) (evCons (evOp opLenA (evCons (evVar 0) evNil)) evNil)))) (evOp opInt (evCons (evOp opIxA (evCons (evVar 0) (evCons (evVar 1) evNil))) evNil)) (evOp opAdd (evCons (evOp opMul (evCons (evCon (.int 919)) (evCons (evVar 1) evNil))) (evCons (evCon (.int 103)) evNil)))) [scr ns, .c ⟨false⟩ (.d (.int spot)), .un, .un, .un]
      = some (.ok (.nx, [scr ns, .c ⟨false⟩ (.d (.int spot)), .c ⟨true⟩ (.d (.int cell)), .un, .un])) := by
    unfold evSet
    rw [ec]
    rfl
  have l3 : 3 ≤ lim := by decide
  refine ⟨.l [.int (max 0 ((if cell < 0 then -cell else cell) % p - 10 ^ 16)), .int ((if cell < 0 then -cell else cell) % p % 2305843009213693951 * 179 + 619 * spot + 131 * (if cell < 0 then 1 else 0) + 83), .int 0], bag0, ?_⟩
  by_cases hn : cell < 0
  all_goals
    unfold FBag evFn
    rw [if_pos ⟨rfl, by decide⟩]
    unfold bBag
    rw [show startE 5 [.d (.list (ns.map .int)), .d (.int spot)] = [scr ns, .c ⟨false⟩ (.d (.int spot)), .un, .un, .un] from rfl, seq_nx st1, pw, pwB2]
    simp [evSeq, evSet, evB, evOp, evCons, evVar, evCon, evNil, bnd, fz, evRet, evLst, conts, cont, R.fz, A.isC, A.rd, slA, isB, opLt, cmp_int, ltD, opInt, opAbs, opMod, P, opMax2, opSub, opAdd, m1, m2, m3, m4, hn, setA, canSet, datas, finA, l3]
    omega
theorem crock_ok (ns : List Int) (spot : Nat) (hs : spot < 1000) : ∃ x : A, Bag (2 ^ 2000) x ∧ FCrock [.d (.list (ns.map .int)), .d (.int spot)] = some (.ok (x, [.d (.list (ns.map .int)), .d (.int spot)])) := by
  have sm := fun x : Int => Int.emod_nonneg x (show (2305843009213693907 : Int) ≠ 0 by decide)
  have sl := fun x : Int => Int.emod_lt_of_pos x (show (0 : Int) < 2305843009213693907 by decide)
  have m1 := fun x : Int => mul_ok (i := x % 2305843009213693907) (j := 101) (small (sm x) (Int.lt_trans (sl x) (by decide))) (small (by decide) (by decide))
  have m2 := mul_ok (i := 1171) (j := spot) (small (by decide) (by decide)) (small (by omega) (by omega))
  have m3 := mul_ok (i := 43) (j := 1) (small (by decide) (by decide)) (small (by decide) (by decide))
  have m4 := mul_ok (i := 43) (j := 0) (small (by decide) (by decide)) (small (by decide) (by decide))
  have P : (0 : Int) < (10 ^ 58) ^ 5 := by decide +kernel
  have pw := pwC
  generalize hP : ((10 : Int) ^ 58) ^ 5 = p at P pw
  obtain ⟨cell, ec⟩ := cell_ok (k1 := 967) (k2 := 83) (by decide) (by decide) ns spot hs [.un, .un]
  have st1 : evSet 2 (evIte (evB (evOp opLt (evCons (evVar 1) (evCons (evOp opLenA (evCons (evVar 0) evNil)) evNil)))) (evOp opInt (evCons (evOp opIxA (evCons (evVar 0) (evCons (evVar 1) evNil))) evNil)) (evOp opAdd (evCons (evOp opMul (evCons (evCon (.int 967)) (evCons (evVar 1) evNil))) (evCons (evCon (.int 83)) evNil)))) [scr ns, .c ⟨false⟩ (.d (.int spot)), .un, .un]
      = some (.ok (.nx, [scr ns, .c ⟨false⟩ (.d (.int spot)), .c ⟨true⟩ (.d (.int cell)), .un])) := by
    unfold evSet
    rw [ec]
    rfl
  have l3 : 3 ≤ lim := by decide
  refine ⟨.l [.int (max 0 ((if cell < 0 then -cell else cell) % p - 10 ^ 17)), .int ((if cell < 0 then -cell else cell) % p % 2305843009213693907 * 101 + 1171 * spot + 43 * (if cell < 0 then 1 else 0) + 19), .int 0], bag0, ?_⟩
  by_cases hn : cell < 0
  all_goals
    unfold FCrock evFn
    rw [if_pos ⟨rfl, by decide⟩]
    unfold bCrock
    rw [show startE 4 [.d (.list (ns.map .int)), .d (.int spot)] = [scr ns, .c ⟨false⟩ (.d (.int spot)), .un, .un] from rfl, seq_nx st1, pw, pwC2]
    simp [evSeq, evSet, evB, evOp, evCons, evVar, evCon, evNil, bnd, fz, evRet, evLst, conts, cont, R.fz, A.isC, A.rd, slA, isB, opLt, cmp_int, ltD, opInt, opAbs, opMod, P, opMax2, opSub, opAdd, m1, m2, m3, m4, hn, setA, canSet, datas, finA, l3]
    omega
end Iv
set_option maxRecDepth 100000
set_option maxHeartbeats 1000000
set_option linter.all false
namespace K99
open PySem Iv
theorem OB : PullOk 10001741 2305843009213693951 751 2305843009213693951 8589934609 131072 := ⟨by decide, by decide, by decide, by decide, by decide, by decide⟩
theorem isPull : F__law_pull = FPull 10001741 2305843009213693951 751 2305843009213693951 8589934609 131072 := rfl
theorem isPick : F__law_choose = FPick (FPull 10001741 2305843009213693951 751 2305843009213693951 8589934609 131072) := rfl
theorem isBag : F__law_bag = FBag := rfl
def un12 (x : A) (s1 s2 s3 s4 : Sl) : Iv.Env := env x s1 s2 s3 s4 .un .un .un .un .un .un .un
theorem d0 (x : A) : z0 (un12 x .un .un .un .un) = some (.ok (.nx, un12 x (ll (noneL.take 14)) .un .un .un)) := by kernel_rfl
theorem d1 {k : Nat} {x : A} (hx : Bag (k + 1) x) : ∃ v x', v ∈ noneL ∧ Bag k x' ∧ z1 (un12 x (ll (noneL.take 14)) .un .un .un) = some (.ok (.nx, un12 x' (o v) .un .un .un)) :=
  setPick OB (i := 0) (Γt := ll (noneL.take 14) :: List.replicate 11 .un) (ds := noneL) hx (by decide) (by decide) (fun a b c => by kernel_rfl) (by kernel_rfl)
theorem d2 {k : Nat} {x : A} {v : D} (hx : Bag (k + 1) x) : ∃ (r : Nat) (x' : A), r < 3 ∧ Bag k x' ∧ z2 (un12 x (o v) .un .un .un) = some (.ok (.nx, un12 x' (o v) (o (.int (7 + (r : Nat)))) .un .un)) := by
  obtain ⟨r, x', hr, hb, e⟩ := pull_ok OB hx 3 (by decide) (by decide)
  refine ⟨r, x', hr, hb, ?_⟩
  obtain ⟨a, b, c, _, rfl⟩ := hx
  obtain ⟨a', b', c', _, rfl⟩ := hb
  rw [← isPull] at e
  have e : F__law_pull [.l [.int a, .int b, .int c], .d (.int 3)] = _ := e
  simp [un12, env, z2, evSet, evOp, evCons, evCon, evCall, evVar, evNil, bnd, fz, R.fz, A.isC, A.rd, argsA, argA, slA, slots, nodupB, e, sameC, putB, conts, cont, opAdd, setA, canSet]
theorem d3 {x : A} {v : D} {r : Nat} (h : r < 3) : ∃ w ∈ wideL, z3 (un12 x (o v) (o (.int (7 + (r : Nat)))) .un .un) = some (.ok (.nx, un12 x (o v) (o w) .un .un)) := by
  match r, h with
  | 0, _ => exact ⟨wideL[0], by simp [wideL], by kernel_rfl⟩
  | 1, _ => exact ⟨wideL[1], by simp [wideL], by kernel_rfl⟩
  | 2, _ => exact ⟨wideL[2], by simp [wideL], by kernel_rfl⟩
theorem d4 {k : Nat} {x : A} {v w : D} (hx : Bag (k + 1) x) : ∃ y x', y ∈ standL ∧ Bag k x' ∧ z4 (un12 x (o v) (o w) .un .un) = some (.ok (.nx, un12 x' (o v) (o w) (o y) .un)) :=
  setPick OB (i := 2) (Γt := o v :: o w :: List.replicate 10 .un) (ds := standL) hx (by decide) (by decide) (fun a b c => by kernel_rfl) (by kernel_rfl)
theorem d5 {k : Nat} {x : A} {v w y : D} (hx : Bag (k + 1) x) : ∃ r x', r ∈ roomL ∧ Bag k x' ∧ z5 (un12 x (o v) (o w) (o y) .un) = some (.ok (.nx, un12 x' (o v) (o w) (o y) (o r))) :=
  setPick OB (i := 3) (Γt := o v :: o w :: o y :: List.replicate 9 .un) (ds := roomL) hx (by decide) (by decide) (fun a b c => by kernel_rfl) (by kernel_rfl)
theorem d6 (cr : A) (x w y r : D) : z6 (un12 cr (o x) (o w) (o y) (o r)) = some (.ok (.nx, env cr (o x) (o w) (o y) (o r) .un (o ring) (o good) (ll t0) (ll t0) .un .un)) := by kernel_rfl
theorem d7 (cr : A) {x w y r : D} (hx : x ∈ noneL) (hw : w ∈ wideL) (hy : y ∈ standL) : z7 (env cr (o x) (o w) (o y) (o r) .un (o ring) (o good) (ll t0) (ll t0) .un .un) = some (.ok (.nx, env cr (o x) (o w) (o y) (o r) .un (o ring) (o good) (ll t3) (ll t3) (o ring) (o (.str "stand")))) := by
  have it : it7 (env cr (o x) (o w) (o y) (o r) .un (o ring) (o good) (ll t0) (ll t0) .un .un) = some (.ok ([.tuple [x, .str "house"], .tuple [w, .str "wide"], .tuple [ring, .str "stand"]], env cr (o x) (o w) (o y) (o r) .un (o ring) (o good) (ll t0) (ll t0) .un .un)) := by kernel_rfl
  refine for_of it ?_
  rw [loop_step (Γ1 := env cr (o x) (o w) (o y) (o r) .un (o ring) (o good) (ll t0) (ll t0) (o x) (o (.str "house"))) (by kernel_rfl) (a1 cr w y r x hx)]
  rw [loop_step (Γ1 := env cr (o x) (o w) (o y) (o r) .un (o ring) (o good) (ll t1) (ll t1) (o w) (o (.str "wide"))) (by kernel_rfl) (a2 cr x y r w hw)]
  rw [loop_step (Γ1 := env cr (o x) (o w) (o y) (o r) .un (o ring) (o good) (ll t2) (ll t2) (o ring) (o (.str "stand"))) (by kernel_rfl) (a3 cr x w r y hy)]
  rfl
theorem okAll {x w y r : D} (hx : x ∈ noneL) (hw : w ∈ wideL) (hy : y ∈ standL) (hr : r ∈ roomL) : ∀ v ∈ [x, w, y, r] ++ oddL, okV v := by
  intro v hv
  rcases List.mem_append.mp hv with h | h
  · simp only [List.mem_cons, List.not_mem_nil, or_false] at h
    rcases h with rfl | rfl | rfl | rfl
    · exact v1 _ hx
    · exact v2 _ hw
    · exact v3 _ hy
    · exact v4 _ hr
  · exact v5 _ h
theorem d18 (cr : A) {x w y r : D} {q : D} (hx : x ∈ noneL) (hw : w ∈ wideL) (hy : y ∈ standL) (hr : r ∈ roomL) : ∃ s5, z18 (env cr (o x) (o w) (o y) (o r) .un (o ring) (o good) (ll (t16 q)) (ll t3) (o ring) (o (.str "stand"))) = some (.ok (.nx, env cr (o x) (o w) (o y) (o r) s5 (o ring) (o good) (ll (t16 q)) (ll t3) (o ring) (o (.str "stand")))) := by
  have it : it18 (env cr (o x) (o w) (o y) (o r) .un (o ring) (o good) (ll (t16 q)) (ll t3) (o ring) (o (.str "stand"))) = some (.ok ([x, w, y, r] ++ oddL, env cr (o x) (o w) (o y) (o r) .un (o ring) (o good) (ll (t16 q)) (ll t3) (o ring) (o (.str "stand")))) := by kernel_rfl
  obtain ⟨Γ', ⟨s5, _, rfl⟩, e⟩ := loop_inv (g := gv18) (b := bo18) (fun Γ => ∃ s5, canS s5 ∧ Γ = env cr (o x) (o w) (o y) (o r) s5 (o ring) (o good) (ll (t16 q)) (ll t3) (o ring) (o (.str "stand"))) (ds := [x, w, y, r] ++ oddL) (fun v hv Γ ⟨s5, h5, eΓ⟩ => by
    refine ⟨env cr (o x) (o w) (o y) (o r) (o v) (o ring) (o good) (ll (t16 q)) (ll t3) (o ring) (o (.str "stand")), _, ?_, okAll hx hw hy hr v hv _ _ _ _ _ _ _ _ _ _, ⟨o v, .inr ⟨_, rfl⟩, rfl⟩⟩
    subst eΓ
    rcases h5 with rfl | ⟨u, rfl⟩ <;> rfl) ⟨.un, .inl rfl, rfl⟩
  exact ⟨s5, for_of it e⟩
theorem right_ok {k : Nat} {x : A} (hx : Bag (k + 4) x) : ∃ x', Bag k x' ∧ F__law_right [x] = some (.ok (.d (.bool true), [x'])) := by
  obtain ⟨v, x1, hv, b1, e1⟩ := d1 (k := k + 3) hx
  obtain ⟨n, x2, hn, b2, e2⟩ := d2 (k := k + 2) (v := v) b1
  obtain ⟨w, hw, e3⟩ := d3 (x := x2) (v := v) hn
  obtain ⟨y, x4, hy, b4, e4⟩ := d4 (k := k + 1) (v := v) (w := w) b2
  obtain ⟨r, x5, hr, b5, e5⟩ := d5 (k := k) (v := v) (w := w) (y := y) b4
  obtain ⟨s5, e18⟩ := d18 x5 (q := rq r) hv hw hy hr
  refine ⟨x5, b5, ?_⟩
  have run : b__law_right (un12 x .un .un .un .un) = some (.ok (.rt (.d (.bool true)), env x5 (o v) (o w) (o y) (o r) s5 (o ring) (o good) (ll (t16 (rq r))) (ll t3) (o ring) (o (.str "stand")))) := by
    rw [right_split, seq_nx (d0 x), seq_nx e1, seq_nx e2, seq_nx e3, seq_nx e4, seq_nx e5, seq_nx (d6 x5 v w y r), seq_nx (d7 x5 hv hw hy), seq_nx (a8 x5 w y r v hv), seq_nx (a9 x5 v y r w hw), seq_nx (a10 x5 v w r y hy), seq_nx (a11 x5 v w r y hy),
      seq_nx (a12 x5 v w y r hr), seq_nx (a13 x5 v w y (rq r) r hr), seq_nx (a14 x5 v w y r (rq r)), seq_nx (a15 x5 v w y r (rq r)), seq_nx (a16 x5 v w y r (rq r)), seq_nx (a17 x5 v w y r hr), seq_nx e18]
    rfl
  obtain ⟨a, b, c, _, rfl⟩ := hx
  obtain ⟨a', b', c', _, rfl⟩ := b5
  unfold F__law_right evFn
  rw [if_pos ⟨rfl, by decide⟩]
  rw [show startE 13 [.l [.int a, .int b, .int c]] = un12 (.l [.int a, .int b, .int c]) .un .un .un .un from rfl, run]
  rfl
def bodyL : M Fw := (evSeq (evSet 2 (evCall F__law_bag (evCons (evVar 0) (evCons (evVar 1) evNil)))) (evSeq (evIf (evOrT (evNotT (evB (evCall F__law_right (evCons (evVar 2) evNil)))) (evNotT (evB (evCall F__law_right (evCons (evVar 2) evNil))))) (evSeq (evRet (evCon (.bool false))) evNext) evNext) evNext))
def finL : M Fw := (evRet (evAnd (evOp opEqA (evCons (evCall F_slid (evCons (evTup (evCons (evCon (.int 2)) (evCons (evTup (evCons (evTup (evCons (evCon (.int 0)) (evCons (evCon (.int 1)) evNil))) evNil)) evNil))) (evCons (evTup (evCons (evCon .none) (evCons (evCon (.int 1)) evNil))) (evCons (evTup (evCons (evCon (.int 1)) (evCons (evCon (.int 0)) (evCons (evCon (.int 1)) evNil)))) evNil)))) (evCons (evTup (evCons (evCon (.int 1)) (evCons (evCon .none) evNil))) evNil))) (evOp opEqA (evCons (evCall F_sign (evCons (evTup (evCons (evCon (.int 2)) (evCons (evTup (evCons (evTup (evCons (evCon (.int 0)) (evCons (evCon (.int 1)) evNil))) evNil)) evNil))) (evCons (evTup (evCons (evCon (.int 1)) (evCons (evCon .none) evNil))) evNil))) (evCons (evCon (.int 0)) evNil)))))
theorem law_split : b_law = evSeq (evFor (itSp 4) (gvName 1) bodyL) (evSeq finL evNext) := rfl
theorem fin_ok (s0 s1 s2 : Sl) : finL [s0, s1, s2] = some (.ok (.rt (.d (.bool true)), [s0, s1, s2])) := by kernel_rfl
theorem body_ok (ns : List Int) (spot : Nat) (hs : spot < 4) (s2 : Sl) (h2 : canS s2) : ∃ s2', canS s2' ∧ bodyL [scr ns, .c ⟨true⟩ (.d (.int spot)), s2] = some (.ok (.nx, [scr ns, .c ⟨true⟩ (.d (.int spot)), s2'])) := by
  obtain ⟨x, hb, e1⟩ := bag_ok ns spot (by omega)
  have big : 8 ≤ 2 ^ 2000 := Nat.le_trans (by decide : 8 ≤ 2 ^ 3) (Nat.pow_le_pow_right (by decide) (by decide))
  obtain ⟨x2, b2, e2⟩ := right_ok (k := 4) (hb.mono big)
  obtain ⟨x3, b3, e3⟩ := right_ok (k := 0) b2
  rw [← isBag] at e1
  obtain ⟨a1, a2, a3, _, rfl⟩ := hb
  obtain ⟨c1, c2, c3, _, rfl⟩ := b2
  obtain ⟨d1, d2, d3, _, rfl⟩ := b3
  refine ⟨.c ⟨true⟩ (.l [.int d1, .int d2, .int d3]), .inr ⟨_, rfl⟩, ?_⟩
  rcases h2 with rfl | ⟨x, rfl⟩
  all_goals
    simp [bodyL, evSeq, evSet, evCall, evCons, evVar, evNil, bnd, fz, R.fz, A.isC, A.rd, argsA, argA, slA, slots, nodupB, sameC, putB, e1, e2, e3, setA, canSet, evIf, evOrT, evNotT, evB, isB, evNext, look]
theorem law_true (ns : List Int) : F_law [.d (.list (ns.map .int))] = some (.ok (.d (.bool true), [.d (.list (ns.map .int))])) := by
  obtain ⟨ks, hk, e1⟩ := itSp_ok 4 (by decide) (by decide) ns [.un, .un]
  obtain ⟨Γ', ⟨s1, s2, _, _, rfl⟩, e2⟩ := loop_inv (g := gvName 1) (b := bodyL) (fun Γ => ∃ s1 s2, canS s1 ∧ canS s2 ∧ Γ = [scr ns, s1, s2]) (ds := ks.map fun k => .int (k : Nat)) (fun d hd Γ ⟨s1, s2, h1, h2, eΓ⟩ => by
    obtain ⟨n, hn, rfl⟩ := List.mem_map.mp hd
    obtain ⟨s2', h2', e⟩ := body_ok ns n (hk n hn) s2 h2
    refine ⟨[scr ns, .c ⟨true⟩ (.d (.int (n : Nat))), s2], _, ?_, e, ⟨_, s2', .inr ⟨_, rfl⟩, h2', rfl⟩⟩
    subst eΓ
    rcases h1 with rfl | ⟨u, rfl⟩ <;> rfl) ⟨.un, .un, .inl rfl, .inl rfl, rfl⟩
  have e1 : itSp 4 [scr ns, .un, .un] = _ := e1
  unfold F_law evFn
  rw [if_pos ⟨rfl, by decide⟩, law_split]
  rw [show startE 3 [.d (.list (ns.map .int))] = [scr ns, .un, .un] from rfl, seq_nx (for_of e1 e2)]
  unfold evSeq
  rw [fin_ok]
  rfl
end K99
set_option Elab.async false
set_option linter.all false
set_option maxRecDepth 100000
set_option maxHeartbeats 1000000
/-! Iv: Bool looks at what the head lays. -/
namespace Iv
open PySem L2
def vVB (K : PySem.W.Frag) : Bool := match PySem.W.findCls K (.type "LookupError") (.type "type") "__init__" with
  | some (.val (.builtin n)) => decide (n = "LookupError.__init__")
  | _ => false
theorem vVB_ok {K : PySem.W.Frag} (h : vVB K = true) : PySem.W.findCls K (.type "LookupError") (.type "type") "__init__" = some (.val (.builtin "LookupError.__init__")) := by
  unfold vVB at h
  split at h
  · rename_i n e
    rw [e, of_decide_eq_true h]
  · cases h
end Iv
set_option Elab.async false
set_option linter.all false
set_option maxRecDepth 100000
set_option maxHeartbeats 1000000
/-! Iv: the law's promise at the head's heap. -/
namespace Iv
open PySem L2
section
variable {P : Program} {w : World} {K : PySem.W.Frag}
theorem prs_ints {H : Hp} : ∀ ns : List Int, PRs P w K H (ns.map V.int) (ns.map PyData.int)
  | [] => .nil
  | n :: ns => .cons (.int n) (prs_ints ns)
theorem fnSp_law {Tb : List (Addr × Str)} {F : Fn} {H : Hp} {a : Addr} {ns : List Int} {as' : List A} (tb : LamX.Tabs Tb H) (h : ∃ o, H a = some (.frz o (.lst (ns.map V.int)))) (e : F [.d (.list (ns.map PyData.int))] = some (.ok (.d (.bool true), as'))) :
    FnSp P w K Tb 1 F [.ref a] H (fun v _ => v = .bl true) fun _ _ _ => False := by
  obtain ⟨o, h⟩ := h
  refine ⟨tb, [.d (.list (ns.map PyData.int))], rfl, .cons (.lst h (prs_ints ns)) .nil, fun i j b h1 _ => ?_, ?_⟩
  · obtain ⟨_, x, ex, hx⟩ := h1
    have : x ∈ [A.d (.list (ns.map PyData.int))] := List.mem_of_getElem? ex
    rw [List.mem_singleton.mp this] at hx
    cases hx
  · rw [e]
    intro v H' _ _ _ _ _ n
    exact PR.inv_bl n.1
theorem tabs_nil {H : Hp} : LamX.Tabs [] H := fun _ z => nomatch z
theorem tabs_empty {Tb : List (Addr × Str)} {H : Hp} (h : ∀ p ∈ Tb, H p.1 = some (.tbl #[])) : LamX.Tabs Tb H := fun p hp => .nil (h p hp)
end
end Iv
set_option Elab.async false
set_option linter.all false
set_option maxRecDepth 100000
set_option maxHeartbeats 1000000
/-! Iv: the head's facts, the table of the statics among them. -/
namespace Iv
open PySem L2 He
def asY (g : Addr → Option Obj) (n : Nat) : List Addr := asD g n ++ [PySem.cStatics]
def obsY (n : Nat) (fa : List Fa) (fn : List DefD) (tf : List Defn) (ex : PySem.W.Frag → Bool) (g : Addr → Option Obj) : AlX := (obsT fa fn [] (frT g (asY g n)), ex (frT g (asY g n)) && tabsB g tf (frT g (asY g n)))
theorem saysY_of {as : List Addr} {fa : List Fa} {fn : List DefD} {tf : List Defn} {ex : PySem.W.Frag → Bool} {w : World} {h : Heap} (e : ((obsT fa fn [] (frT h.get? as), ex (frT h.get? as) && tabsB h.get? tf (frT h.get? as)) : AlX) = valX fn [] w) : SaysX fa fn [] tf ex w h (frT h.get? as) := by
  have e2 := congrArg (fun z : AlX => z.2) e
  have e2 : (ex (frT h.get? as) && tabsB h.get? tf (frT h.get? as)) = true := e2
  rw [Bool.and_eq_true] at e2
  have tab : ∀ p ∈ tf, PySem.W.codeHdIn (frT h.get? as) (cT (frT h.get? as) p).1 (cT (frT h.get? as) p).2 = true ∧ ∃ o, h.get? (cT (frT h.get? as) p).2 = some o ∧ emptyTab o = true := fun p hp => by
    have z := List.all_eq_true.mp e2.2 p hp
    rw [Bool.and_eq_true] at z
    refine ⟨z.1, ?_⟩
    have z2 := z.2
    split at z2
    · rename_i o eo; exact ⟨o, eo, z2⟩
    · cases z2
  exact {
    t := congrArg (fun z : AlX => z.1) e
    more := e2.1
    hd := fun p hp => (tab p hp).1
    out := fun p hp => let ⟨_, o, q, z⟩ := tab p hp; frT_none q z
    empty := fun p hp => by
      obtain ⟨_, o, q, z⟩ := tab p hp
      rw [q, emptyTab_eq z] }
def hookY (n : Nat) (fa : List Fa) (fn : List DefD) (tf : List Defn) (ex : PySem.W.Frag → Bool) : PySem.W.Hook where
  α := AlX
  obs := fun s => obsY n fa fn tf ex s.heap.get?
  val := fun w => valX fn [] w
  says := fun w h => ∃ K : PySem.W.Frag, K.In h ∧ SaysX fa fn [] tf ex w h K
  of := fun _ _ e => ⟨_, frT_in, saysY_of e⟩
  keeps := fun _ _ _ ⟨K, hK, c⟩ k => ⟨K, PySem.W.Frag.In.keeps hK k, { t := c.t, more := c.more, hd := c.hd, out := c.out, empty := fun p hp => k _ _ (c.empty p hp) }⟩
theorem obsY_eq {n : Nat} {fa : List Fa} {fn : List DefD} {tf : List Defn} {ex : PySem.W.Frag → Bool} {g : Addr → Option Obj} {s : Shared} (h : ∀ a, g a = s.heap.get? a) : obsY n fa fn tf ex g = (hookY n fa fn tf ex).obs s := by
  have e : g = s.heap.get? := funext h
  rw [e] <;> rfl
end Iv
set_option Elab.async false
set_option linter.all false
set_option maxRecDepth 100000
set_option maxHeartbeats 0
namespace K99
open PySem PySem.Spec PyProof.Rows L2 Iv
def d_is_number_from : He.DefD := ⟨("is_number_from", none), "is_number_from", "is_number_from", defArgs s_is_number_from, defBody s_is_number_from, defScope s_is_number_from, [], []⟩
def d_is_door_told : He.DefD := ⟨("is_door_told", none), "is_door_told", "is_door_told", defArgs s_is_door_told, defBody s_is_door_told, defScope s_is_door_told, [], []⟩
def d_is_web_told : He.DefD := ⟨("is_web_told", none), "is_web_told", "is_web_told", defArgs s_is_web_told, defBody s_is_web_told, defScope s_is_web_told, [], []⟩
def d_neighbours_in : He.DefD := ⟨("neighbours_in", none), "neighbours_in", "neighbours_in", defArgs s_neighbours_in, defBody s_neighbours_in, defScope s_neighbours_in, [], []⟩
def d_ask_web : He.DefD := ⟨("ask_web", none), "ask_web", "ask_web", defArgs s_ask_web, defBody s_ask_web, defScope s_ask_web, [], []⟩
def d_rooms_met_without : He.DefD := ⟨("rooms_met_without", none), "rooms_met_without", "rooms_met_without", defArgs s_rooms_met_without, defBody s_rooms_met_without, defScope s_rooms_met_without, [], []⟩
def d_is_whole_web : He.DefD := ⟨("is_whole_web", none), "is_whole_web", "is_whole_web", defArgs s_is_whole_web, defBody s_is_whole_web, defScope s_is_whole_web, [], []⟩
def d_empty_room : He.DefD := ⟨("empty_room", none), "empty_room", "empty_room", defArgs s_empty_room, defBody s_empty_room, defScope s_empty_room, [], []⟩
def d_slid_into : He.DefD := ⟨("slid_into", none), "slid_into", "slid_into", defArgs s_slid_into, defBody s_slid_into, defScope s_slid_into, [], []⟩
def d_stands_from : He.DefD := ⟨("stands_from", none), "stands_from", "stands_from", defArgs s_stands_from, defBody s_stands_from, defScope s_stands_from, [], []⟩
def d_rooms_to : He.DefD := ⟨("rooms_to", none), "rooms_to", "rooms_to", defArgs s_rooms_to, defBody s_rooms_to, defScope s_rooms_to, [], []⟩
def d_first_stand : He.DefD := ⟨("first_stand", none), "first_stand", "first_stand", defArgs s_first_stand, defBody s_first_stand, defScope s_first_stand, [], []⟩
def d_hues_of : He.DefD := ⟨("hues_of", none), "hues_of", "hues_of", defArgs s_hues_of, defBody s_hues_of, defScope s_hues_of, [], []⟩
def d_sign_of : He.DefD := ⟨("sign_of", none), "sign_of", "sign_of", defArgs s_sign_of, defBody s_sign_of, defScope s_sign_of, [], []⟩
def d_is_ring_web : He.DefD := ⟨("is_ring_web", none), "is_ring_web", "is_ring_web", defArgs s_is_ring_web, defBody s_is_ring_web, defScope s_is_ring_web, [], []⟩
def d_rooms_round : He.DefD := ⟨("rooms_round", none), "rooms_round", "rooms_round", defArgs s_rooms_round, defBody s_rooms_round, defScope s_rooms_round, [], []⟩
def d_round_of_things : He.DefD := ⟨("round_of_things", none), "round_of_things", "round_of_things", defArgs s_round_of_things, defBody s_round_of_things, defScope s_round_of_things, [], []⟩
def d_paper_of_slides : He.DefD := ⟨("paper_of_slides", none), "paper_of_slides", "paper_of_slides", defArgs s_paper_of_slides, defBody s_paper_of_slides, defScope s_paper_of_slides, [], []⟩
def d_is_stand_told : He.DefD := ⟨("is_stand_told", none), "is_stand_told", "is_stand_told", defArgs s_is_stand_told, defBody s_is_stand_told, defScope s_is_stand_told, [], []⟩
def d_is_slide_now : He.DefD := ⟨("is_slide_now", none), "is_slide_now", "is_slide_now", defArgs s_is_slide_now, defBody s_is_slide_now, defScope s_is_slide_now, [], []⟩
def d_is_led_by : He.DefD := ⟨("is_led_by", none), "is_led_by", "is_led_by", defArgs s_is_led_by, defBody s_is_led_by, defScope s_is_led_by, [], []⟩
def d_are_things : He.DefD := ⟨("are_things", none), "are_things", "are_things", defArgs s_are_things, defBody s_are_things, defScope s_are_things, [], []⟩
def d_shows_unlike : He.DefD := ⟨("shows_unlike", none), "shows_unlike", "shows_unlike", defArgs s_shows_unlike, defBody s_shows_unlike, defScope s_shows_unlike, [], []⟩
def d_ask_whole : He.DefD := ⟨("ask_whole", none), "ask_whole", "ask_whole", defArgs s_ask_whole, defBody s_ask_whole, defScope s_ask_whole, [], []⟩
def d_ask_stand : He.DefD := ⟨("ask_stand", none), "ask_stand", "ask_stand", defArgs s_ask_stand, defBody s_ask_stand, defScope s_ask_stand, [], []⟩
def d_ask_both_stands : He.DefD := ⟨("ask_both_stands", none), "ask_both_stands", "ask_both_stands", defArgs s_ask_both_stands, defBody s_ask_both_stands, defScope s_ask_both_stands, [], []⟩
def d_slide : He.DefD := ⟨("slide", none), "slide", "slide", defArgs s_slide, defBody s_slide, defScope s_slide, [], []⟩
def d_slid : He.DefD := ⟨("slid", none), "slid", "slid", defArgs s_slid, defBody s_slid, defScope s_slid, [], []⟩
def d_slides_paper : He.DefD := ⟨("slides_paper", none), "slides_paper", "slides_paper", defArgs s_slides_paper, defBody s_slides_paper, defScope s_slides_paper, [], []⟩
def d_shows_slides : He.DefD := ⟨("shows_slides", none), "shows_slides", "shows_slides", defArgs s_shows_slides, defBody s_shows_slides, defScope s_shows_slides, [], []⟩
def d_least_slides : He.DefD := ⟨("least_slides", none), "least_slides", "least_slides", defArgs s_least_slides, defBody s_least_slides, defScope s_least_slides, [], []⟩
def d_count_stands : He.DefD := ⟨("count_stands", none), "count_stands", "count_stands", defArgs s_count_stands, defBody s_count_stands, defScope s_count_stands, [], []⟩
def d_sign : He.DefD := ⟨("sign", none), "sign", "sign", defArgs s_sign, defBody s_sign, defScope s_sign, [], []⟩
def d_round_things : He.DefD := ⟨("round_things", none), "round_things", "round_things", defArgs s_round_things, defBody s_round_things, defScope s_round_things, [], []⟩
def d__law_bag : He.DefD := ⟨("_law_bag", none), "_law_bag", "_law_bag", defArgs s__law_bag, defBody s__law_bag, defScope s__law_bag, [], []⟩
def d__law_pull : He.DefD := ⟨("_law_pull", none), "_law_pull", "_law_pull", defArgs s__law_pull, defBody s__law_pull, defScope s__law_pull, [], []⟩
def d__law_choose : He.DefD := ⟨("_law_choose", none), "_law_choose", "_law_choose", defArgs s__law_choose, defBody s__law_choose, defScope s__law_choose, [], []⟩
def d__law_met : He.DefD := ⟨("_law_met", none), "_law_met", "_law_met", defArgs s__law_met, defBody s__law_met, defScope s__law_met, [], []⟩
def d__law_right : He.DefD := ⟨("_law_right", none), "_law_right", "_law_right", defArgs s__law_right, defBody s__law_right, defScope s__law_right, [], []⟩
def d_law : He.DefD := ⟨("law", none), "law", "law", defArgs s_law, defBody s_law, defScope s_law, [], []⟩
def d_init_NoWalk : He.DefD := ⟨("NoWalk", some "__init__"), "__init__", "NoWalk.__init__", defArgs s_init_NoWalk, defBody s_init_NoWalk, defScope s_init_NoWalk, [], []⟩
def d_init_LackError : He.DefD := ⟨("LackError", some "__init__"), "__init__", "LackError.__init__", defArgs s_init_LackError, defBody s_init_LackError, defScope s_init_LackError, [], []⟩
def fn : List He.DefD := [d_is_number_from, d_is_door_told, d_is_web_told, d_neighbours_in, d_ask_web, d_rooms_met_without, d_is_whole_web, d_empty_room, d_slid_into, d_stands_from, d_rooms_to, d_first_stand, d_hues_of, d_sign_of, d_is_ring_web, d_rooms_round, d_round_of_things, d_paper_of_slides, d_is_stand_told, d_is_slide_now, d_is_led_by, d_are_things, d_shows_unlike, d_ask_whole, d_ask_stand, d_ask_both_stands, d_slide, d_slid, d_slides_paper, d_shows_slides, d_least_slides, d_count_stands, d_sign, d_round_things, d__law_bag, d__law_pull, d__law_choose, d__law_met, d__law_right, d_law, d_init_NoWalk, d_init_LackError]
def fa : List He.Fa := [.glo "is_number_from", .glo "is_door_told", .glo "is_web_told", .glo "neighbours_in", .glo "ask_web", .glo "rooms_met_without", .glo "is_whole_web", .glo "empty_room", .glo "slid_into", .glo "stands_from", .glo "rooms_to", .glo "first_stand", .glo "hues_of", .glo "sign_of", .glo "is_ring_web", .glo "rooms_round", .glo "round_of_things", .glo "paper_of_slides", .glo "is_stand_told", .glo "is_slide_now", .glo "is_led_by", .glo "are_things", .glo "shows_unlike", .glo "ask_whole", .glo "ask_stand", .glo "ask_both_stands", .glo "slide", .glo "slid", .glo "slides_paper", .glo "shows_slides", .glo "least_slides", .glo "count_stands", .glo "sign", .glo "round_things", .glo "_law_bag", .glo "_law_pull", .glo "_law_choose", .glo "_law_met", .glo "_law_right", .glo "law", .glo "RoomError", .glo "NoHouse", .glo "NoSituation", .glo "TooWide", .glo "NoWalk", .glo "LackError", .glo "NoRoom", .glo "NoNumber", .free "abs", .free "all", .free "bool", .free "enumerate", .free "int", .free "isinstance", .free "len", .free "list", .free "max", .free "min", .free "range", .free "repr", .free "sorted", .free "str", .free "tuple", .free "zip", .free "LookupError", .int "MOST_ROOMS" 9, .int "MOST_SLID" 6, .str "SLIDES" "slides", .str "ROUNDS" "rounds", .str "SIGNS" "signs"]
def ex0 (K : PySem.W.Frag) : Bool := noList K
def ex1 (K : PySem.W.Frag) : Bool := (["NoHouse", "NoSituation", "RoomError", "TooWide"] : List Str).all fun x => plB He.veBase "ValueError.__new__" x K
def ex2 (K : PySem.W.Frag) : Bool := (["NoWalk"] : List Str).all fun x => lkB He.veBase "ValueError.__new__" x K && He.eqO (PySem.W.findIn K (.ref (He.ga K x)) "__init__") (some (some (.ref (He.fAd K ("NoWalk", some "__init__")))))
def ex3 (K : PySem.W.Frag) : Bool := decide (PySem.W.typeIn K (.ref (He.fAd K ("NoWalk", some "__init__"))) = some (.type "function"))
def ex4 (K : PySem.W.Frag) : Bool := He.eqO (PySem.W.specialIn K (.ref (He.ga K "RoomError")) "__getattribute__") (some (some (.builtin "type.__getattribute__")))
def ex5 (K : PySem.W.Frag) : Bool := PySem.W.readsIn K (He.ga K "RoomError") (.type "type")
def ex6 (K : PySem.W.Frag) : Bool := vVO (He.ga K "RoomError") "ValueError.__init__" K
def ex7 (K : PySem.W.Frag) : Bool := (["LackError", "NoNumber", "NoRoom"] : List Str).all fun x => lkB leBase "LookupError.__new__" x K && He.eqO (PySem.W.findIn K (.ref (He.ga K x)) "__init__") (some (some (.ref (He.fAd K ("LackError", some "__init__")))))
def ex8 (K : PySem.W.Frag) : Bool := decide (PySem.W.typeIn K (.ref (He.fAd K ("LackError", some "__init__"))) = some (.type "function"))
def ex9 (K : PySem.W.Frag) : Bool := vVB K
def ex10 (K : PySem.W.Frag) : Bool := exmB K known caught exT
def ex11 (K : PySem.W.Frag) : Bool := xfB K (He.ga K "NoRoom")
def ex12 (K : PySem.W.Frag) : Bool := xfB K (He.ga K "NoNumber")
def ex13 (K : PySem.W.Frag) : Bool := xfB K (He.ga K "NoWalk")
def ex (K : PySem.W.Frag) : Bool := ex0 K && (ex1 K && (ex2 K && (ex3 K && (ex4 K && (ex5 K && (ex6 K && (ex7 K && (ex8 K && (ex9 K && (ex10 K && (ex11 K && (ex12 K && (ex13 K)))))))))))))
abbrev theRow : PySem.W.OpenRow := PySem.W.OpenLaw.row PySem.Challenge.rw_roomwide_k99_refusals_of_slides
abbrev hk : PySem.W.Hook := hookY 4 fa fn [("_law_right", none)] ex
def ob (s : PySem.W.SharedT) : He.AlX := obsY 4 fa fn [("_law_right", none)] ex (HandSHeadRun.getT s)
theorem ob_eq (s : PySem.W.SharedT) : ob s = hk.obs s.abs := obsY_eq (HandSHeadRun.getT_eq s)
def loose : List Str := (["RoomError", "NoHouse", "NoSituation", "TooWide", "NoWalk", "LackError", "NoRoom", "NoNumber", "MOST_ROOMS", "is_number_from", "is_door_told", "is_web_told", "neighbours_in", "ask_web", "MOST_SLID", "SLIDES", "ROUNDS", "SIGNS", "rooms_met_without", "is_whole_web", "empty_room", "slid_into", "stands_from", "rooms_to", "first_stand", "hues_of", "sign_of", "is_ring_web", "rooms_round", "round_of_things"] : List Str) ++ (["paper_of_slides", "is_stand_told", "is_slide_now", "is_led_by", "are_things", "shows_unlike", "ask_whole", "ask_stand", "ask_both_stands", "slide", "slid", "slides_paper", "shows_slides", "least_slides", "count_stands", "sign", "round_things", "_law_bag", "_law_pull", "_law_choose", "_law_met", "_law_right"] : List Str)
theorem run (w : World) : HandSHeadRun.RunEq theRow (PySem.W.view theRow.prog [56]) hk ob 4000 loose w := by
  intro os
  kernel_rfl
theorem kint {mg : Str → Option Value} {x : Str} {i : Int} (h : ∃ t, mg x = some (.int i t)) : Kon mg x (.int i) := let ⟨t, e⟩ := h; ⟨_, _, rfl, e, ⟨t, rfl⟩⟩
theorem kstr {mg : Str → Option Value} {x : Str} {i : Str} (h : ∃ t, mg x = some (.str i t)) : Kon mg x (.str i) := let ⟨t, e⟩ := h; ⟨_, _, rfl, e, ⟨t, rfl⟩⟩
theorem hd_of {K : PySem.W.Frag} {h : Heap} {mg : Str → Option Value} (X : K.In h) (G : h.Ns mainGlobals mg) (c : He.SaysD fa fn K) (e : ex K = true) : HD K mg := by
  have f : ∀ {z : He.Fa}, z ∈ fa → z.ok K = true := fun z => c.facts z
  have d : ∀ {z : He.DefD}, z ∈ fn → ∃ fd, FunD K z.name z.qual z.params z.body z.scope (z.dvs K) (z.kws K) (He.fAd K z.at_) fd := fun z => c.defs z
  unfold ex at e
  simp only [Bool.and_eq_true] at e
  obtain ⟨e0, e1, e2, e3, e4, e5, e6, e7, e8, e9, e10, e11, e12, e13⟩ := e
  have lk_NoWalk : ∀ x ∈ (["NoWalk"] : List Str), mg x = some (.ref (He.ga K x)) → LkX K mg x He.veBase "ValueError.__new__" (He.fAd K ("NoWalk", some "__init__")) := fun x hx gx => by
    have z := List.all_eq_true.mp e2 x hx
    rw [Bool.and_eq_true] at z
    exact lkB_ok z.1 gx z.2
  have lk_LackError : ∀ x ∈ (["LackError", "NoNumber", "NoRoom"] : List Str), mg x = some (.ref (He.ga K x)) → LkX K mg x leBase "LookupError.__new__" (He.fAd K ("LackError", some "__init__")) := fun x hx gx => by
    have z := List.all_eq_true.mp e7 x hx
    rw [Bool.and_eq_true] at z
    exact lkB_ok z.1 gx z.2
  exact {
    hf := fun x hx => He.free_ok X G (f (by simp only [free, List.mem_cons, List.not_mem_nil, or_false] at hx; rcases hx with rfl | rfl | rfl | rfl | rfl | rfl | rfl | rfl | rfl | rfl | rfl | rfl | rfl | rfl | rfl | rfl <;> simp [fa]))
    def_is_number_from := ⟨d (z := d_is_number_from) (by simp [fn]), He.glo_ok X G (x := "is_number_from") (f (by simp [fa]))⟩
    def_is_door_told := ⟨d (z := d_is_door_told) (by simp [fn]), He.glo_ok X G (x := "is_door_told") (f (by simp [fa]))⟩
    def_is_web_told := ⟨d (z := d_is_web_told) (by simp [fn]), He.glo_ok X G (x := "is_web_told") (f (by simp [fa]))⟩
    def_neighbours_in := ⟨d (z := d_neighbours_in) (by simp [fn]), He.glo_ok X G (x := "neighbours_in") (f (by simp [fa]))⟩
    def_ask_web := ⟨d (z := d_ask_web) (by simp [fn]), He.glo_ok X G (x := "ask_web") (f (by simp [fa]))⟩
    def_rooms_met_without := ⟨d (z := d_rooms_met_without) (by simp [fn]), He.glo_ok X G (x := "rooms_met_without") (f (by simp [fa]))⟩
    def_is_whole_web := ⟨d (z := d_is_whole_web) (by simp [fn]), He.glo_ok X G (x := "is_whole_web") (f (by simp [fa]))⟩
    def_empty_room := ⟨d (z := d_empty_room) (by simp [fn]), He.glo_ok X G (x := "empty_room") (f (by simp [fa]))⟩
    def_slid_into := ⟨d (z := d_slid_into) (by simp [fn]), He.glo_ok X G (x := "slid_into") (f (by simp [fa]))⟩
    def_stands_from := ⟨d (z := d_stands_from) (by simp [fn]), He.glo_ok X G (x := "stands_from") (f (by simp [fa]))⟩
    def_rooms_to := ⟨d (z := d_rooms_to) (by simp [fn]), He.glo_ok X G (x := "rooms_to") (f (by simp [fa]))⟩
    def_first_stand := ⟨d (z := d_first_stand) (by simp [fn]), He.glo_ok X G (x := "first_stand") (f (by simp [fa]))⟩
    def_hues_of := ⟨d (z := d_hues_of) (by simp [fn]), He.glo_ok X G (x := "hues_of") (f (by simp [fa]))⟩
    def_sign_of := ⟨d (z := d_sign_of) (by simp [fn]), He.glo_ok X G (x := "sign_of") (f (by simp [fa]))⟩
    def_is_ring_web := ⟨d (z := d_is_ring_web) (by simp [fn]), He.glo_ok X G (x := "is_ring_web") (f (by simp [fa]))⟩
    def_rooms_round := ⟨d (z := d_rooms_round) (by simp [fn]), He.glo_ok X G (x := "rooms_round") (f (by simp [fa]))⟩
    def_round_of_things := ⟨d (z := d_round_of_things) (by simp [fn]), He.glo_ok X G (x := "round_of_things") (f (by simp [fa]))⟩
    def_paper_of_slides := ⟨d (z := d_paper_of_slides) (by simp [fn]), He.glo_ok X G (x := "paper_of_slides") (f (by simp [fa]))⟩
    def_is_stand_told := ⟨d (z := d_is_stand_told) (by simp [fn]), He.glo_ok X G (x := "is_stand_told") (f (by simp [fa]))⟩
    def_is_slide_now := ⟨d (z := d_is_slide_now) (by simp [fn]), He.glo_ok X G (x := "is_slide_now") (f (by simp [fa]))⟩
    def_is_led_by := ⟨d (z := d_is_led_by) (by simp [fn]), He.glo_ok X G (x := "is_led_by") (f (by simp [fa]))⟩
    def_are_things := ⟨d (z := d_are_things) (by simp [fn]), He.glo_ok X G (x := "are_things") (f (by simp [fa]))⟩
    def_shows_unlike := ⟨d (z := d_shows_unlike) (by simp [fn]), He.glo_ok X G (x := "shows_unlike") (f (by simp [fa]))⟩
    def_ask_whole := ⟨d (z := d_ask_whole) (by simp [fn]), He.glo_ok X G (x := "ask_whole") (f (by simp [fa]))⟩
    def_ask_stand := ⟨d (z := d_ask_stand) (by simp [fn]), He.glo_ok X G (x := "ask_stand") (f (by simp [fa]))⟩
    def_ask_both_stands := ⟨d (z := d_ask_both_stands) (by simp [fn]), He.glo_ok X G (x := "ask_both_stands") (f (by simp [fa]))⟩
    def_slide := ⟨d (z := d_slide) (by simp [fn]), He.glo_ok X G (x := "slide") (f (by simp [fa]))⟩
    def_slid := ⟨d (z := d_slid) (by simp [fn]), He.glo_ok X G (x := "slid") (f (by simp [fa]))⟩
    def_slides_paper := ⟨d (z := d_slides_paper) (by simp [fn]), He.glo_ok X G (x := "slides_paper") (f (by simp [fa]))⟩
    def_shows_slides := ⟨d (z := d_shows_slides) (by simp [fn]), He.glo_ok X G (x := "shows_slides") (f (by simp [fa]))⟩
    def_least_slides := ⟨d (z := d_least_slides) (by simp [fn]), He.glo_ok X G (x := "least_slides") (f (by simp [fa]))⟩
    def_count_stands := ⟨d (z := d_count_stands) (by simp [fn]), He.glo_ok X G (x := "count_stands") (f (by simp [fa]))⟩
    def_sign := ⟨d (z := d_sign) (by simp [fn]), He.glo_ok X G (x := "sign") (f (by simp [fa]))⟩
    def_round_things := ⟨d (z := d_round_things) (by simp [fn]), He.glo_ok X G (x := "round_things") (f (by simp [fa]))⟩
    def__law_bag := ⟨d (z := d__law_bag) (by simp [fn]), He.glo_ok X G (x := "_law_bag") (f (by simp [fa]))⟩
    def__law_pull := ⟨d (z := d__law_pull) (by simp [fn]), He.glo_ok X G (x := "_law_pull") (f (by simp [fa]))⟩
    def__law_choose := ⟨d (z := d__law_choose) (by simp [fn]), He.glo_ok X G (x := "_law_choose") (f (by simp [fa]))⟩
    def__law_met := ⟨d (z := d__law_met) (by simp [fn]), He.glo_ok X G (x := "_law_met") (f (by simp [fa]))⟩
    def__law_right := ⟨d (z := d__law_right) (by simp [fn]), He.glo_ok X G (x := "_law_right") (f (by simp [fa]))⟩
    def_law := ⟨d (z := d_law) (by simp [fn]), He.glo_ok X G (x := "law") (f (by simp [fa]))⟩
    k_MOST_ROOMS := kint (He.int_ok X G (f (by simp [fa])))
    k_MOST_SLID := kint (He.int_ok X G (f (by simp [fa])))
    k_SLIDES := kstr (He.str_ok X G (f (by simp [fa])))
    k_ROUNDS := kstr (He.str_ok X G (f (by simp [fa])))
    k_SIGNS := kstr (He.str_ok X G (f (by simp [fa])))
    x_NoHouse := plB_ok (List.all_eq_true.mp e1 "NoHouse" (by simp)) (He.glo_ok X G (x := "NoHouse") (f (by simp [fa])))
    x_NoSituation := plB_ok (List.all_eq_true.mp e1 "NoSituation" (by simp)) (He.glo_ok X G (x := "NoSituation") (f (by simp [fa])))
    x_RoomError := plB_ok (List.all_eq_true.mp e1 "RoomError" (by simp)) (He.glo_ok X G (x := "RoomError") (f (by simp [fa])))
    x_TooWide := plB_ok (List.all_eq_true.mp e1 "TooWide" (by simp)) (He.glo_ok X G (x := "TooWide") (f (by simp [fa])))
    y_LackError := lk_LackError "LackError" (by simp) (He.glo_ok X G (x := "LackError") (f (by simp [fa])))
    y_NoNumber := lk_LackError "NoNumber" (by simp) (He.glo_ok X G (x := "NoNumber") (f (by simp [fa])))
    y_NoRoom := lk_LackError "NoRoom" (by simp) (He.glo_ok X G (x := "NoRoom") (f (by simp [fa])))
    y_NoWalk := lk_NoWalk "NoWalk" (by simp) (He.glo_ok X G (x := "NoWalk") (f (by simp [fa])))
    init_NoWalk := ⟨d (z := d_init_NoWalk) (by simp [fn]), of_decide_eq_true e3⟩
    oG_NoWalk := He.eqO_ok e4
    oR_NoWalk := e5
    oV_NoWalk := vVO_ok e6
    init_LackError := ⟨d (z := d_init_LackError) (by simp [fn]), of_decide_eq_true e8⟩
    le := He.free_ok X G (x := "LookupError") (f (by simp [fa]))
    vV := vVB_ok e9
    exm := e10
    xf_NoRoom := xfB_ok e11
    xf_NoNumber := xfB_ok e12
    xf_NoWalk := xfB_ok e13 }
end K99
set_option Elab.async false
set_option linter.all false
set_option maxRecDepth 100000
set_option maxHeartbeats 0
namespace K99
open PySem PySem.Spec PyProof.Rows L2 Iv
theorem law_at {w : World} {K : PySem.W.Frag} {mg : Str → Option Value} {h : Heap} {fa0 : Addr} (X : K.In h) (G : h.Ns mainGlobals mg) (c : He.SaysX fa fn [] [("_law_right", none)] ex w h K) (hfa : mg "law" = some (.ref fa0)) :
    LawAtG PySem.Challenge.rw_roomwide_k99_refusals_of_slides w K (L2.CX (PySem.Challenge.rw_roomwide_k99_refusals_of_slides).prog w) 12 63 "script" mg fa0 h := by
  have T := hd_of X G c.t.d c.more
  have ee := c.more
  unfold ex at ee
  simp only [Bool.and_eq_true] at ee
  have e := hfa.symm.trans T.def_law.g
  cases e
  obtain ⟨fd, F⟩ := T.def_law.ex
  have m : ((("_law_right", none) : He.Defn)) ∈ ([("_law_right", none)] : List He.Defn) := List.mem_singleton.mpr rfl
  refine ⟨ee.1, fd, [He.cT K ("_law_right", none)], FnSp (PySem.Challenge.rw_roomwide_k99_refusals_of_slides).prog w K [((He.cT K ("_law_right", none)).2, "_law_right.<locals>.<lambda>")] 1 F_law, ?_, ?_, ?_, ?_⟩
  · intro p hp
    rw [List.mem_singleton.mp hp]
    exact ⟨c.empty _ m, c.out _ m, PySem.W.codeHd_of_K X (c.hd _ m)⟩
  · exact fun s u => FunD.bindsA (ps := ["script"]) F (fun _ _ _ _ _ _ us hl => match us, hl with | [_], _ => rfl) s [u] rfl
  · intro H a ns _ _ ht h
    exact fnSp_law (tabs_empty fun p hp => by rw [List.mem_singleton.mp hp]; exact ht _ (List.mem_singleton.mpr rfl)) h (law_true ns)
  · intro base kb gb tb
    exact (ok_law T (tb _ (List.mem_singleton.mpr rfl)) F).1
end K99
open PySem PySem.W PySem.Calls PyProof.Rows
theorem PySem.Challenge.cw_roomwide_k99_refusals_of_slides_holds : PySem.Challenge.rw_roomwide_k99_refusals_of_slides.Holds := by
  w_on; o_law
  refine HandSHeadRun.head_any (r := OpenLaw.row PySem.Challenge.rw_roomwide_k99_refusals_of_slides) (q := view (OpenLaw.row PySem.Challenge.rw_roomwide_k99_refusals_of_slides).prog [56]) (H := K99.hk) (ob := K99.ob) (M := 4000) (loose := K99.loose) (d := HandSHeadRun.topDef (OpenLaw.row PySem.Challenge.rw_roomwide_k99_refusals_of_slides).prog 56) (kwd := []) K99.ob_eq
    (by kernel_rfl) (fun s => by kernel_rfl) K99.run (by kernel_rfl) (by kernel_rfl) (by kernel_rfl) (by rfl) (by first | assumption | decide +kernel) (by decide +kernel) ⟨rfl, rfl, rfl, rfl, rfl, by decide +kernel⟩ ?hw ?hc
  case hw => w_witness2
  case hc =>
    refine Iv.walkG (l := PySem.Challenge.rw_roomwide_k99_refusals_of_slides) (n := 63) (k := 12) (x := "script") (CX := fun w => L2.CX (PySem.Challenge.rw_roomwide_k99_refusals_of_slides).prog w) rfl (by decide) (by kernel_rfl) ⟨rfl, by decide, by decide⟩ ?F ?C
    · intro w mg fa h Y G hmg0
      obtain ⟨K, KX, c⟩ := Y
      have hmg : mg ("law" : PySem.Str) = some (.ref fa) := by
        have e : (HandSHeadRun.topDef (OpenLaw.row PySem.Challenge.rw_roomwide_k99_refusals_of_slides).prog 56).name = ("law" : PySem.Str) := by kernel_rfl
        rw [← e]
        exact hmg0
      exact ⟨K, KX, K99.law_at KX G c hmg⟩
    · intro w H s e s' z
      obtain ⟨_, _, _, _, _, _, _, _, _, _, _, _, z⟩ := z
      exact z.elim
