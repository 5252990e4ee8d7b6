import PyProof.Rows.All
import Wide.All
import OpenK.AllK
import Wide.FinOn
import HandS.ForMost
import HandS.ForExc
import HandS.Wide
import HandS.WideMore
import HandS.Evl
import HandS.CallSlots
import HandS.Defaults
import HandS.Walk
import HandS.Style
import HandS.TupAny
import HandS.Deep
import HandS.HeadHook1
import HandS.ExcCtx
import HandS.Lambda
import HandS.IsInst
import HandS.Zip
import HandS.Small
import HandS.TryOnly
import HandS.TupMul
import HandS.HeadHook4
import HandS.Head3
import HandS.EndBits
import HandS.MakeKw
import HandS.Zip0
import KE.GoesEnumKw
import PyProof.Rows.CallKwBuiltin
import PyProof.Rows.SumAny
import HandS.List
import HandS.Sort
import KE.GoesEnum
import KE.GoesMore
import KE.KRevSl
import HandS.TupLen
import KE.KDictDisplayH
import HandS.SortInts
import KE.KDictWalk
import KE.KDictSum
import HandS.Keys
import HandS.HotCalls
import HandS.ExcIs
import HandS.Text
import HandS.EndTab
import HandS.NestedK
import HandS.SortRule
import PySem.Challenge.RW_cotide_k06_squares_and_sides
import KE.KStateDown
import Lean
set_option Elab.async false
set_option linter.all false
set_option maxRecDepth 100000
/-! DL1 -/
/-! DL: data under the hand layer. -/
namespace DL
open PySem PySem.Spec PyProof.Rows L2

abbrev D := PyData
abbrev Fg := PySem.W.Frag

/-! ### heaps -/
theorem same_upd {H : Hp} {p : Addr} {o : HO} (h : H p = none) : Same H (upd H p o) := fun b x e => by
  rw [upd_ne (ne_of_none e h)]
  exact e
theorem same_into {H H' : Hp} {p : Addr} {o : HO} (s : Same H H') (h : H p = none) : Same H (upd H' p o) := fun b x e => by
  rw [upd_ne (ne_of_none e h)]
  exact s b x e
theorem Same.seqT {K : Fg} {H H' : Hp} {a : Addr} {xs : List V} (e : Same H H') (h : SqT K H a xs) : SqT K H' a xs := by
  rcases h with (h | ⟨o, h⟩) | h
  · exact .inl (.inl (e _ _ h))
  · exact .inl (.inr ⟨o, e _ _ h⟩)
  · exact .inr h
theorem Same.rd {H H' : Hp} {a : Addr} {u : HO} (e : Same H H') (h : Rd H a u) : Rd H' a u := by
  rcases h with h | ⟨o, h⟩
  · exact .inl (e _ _ h)
  · exact .inr ⟨o, e _ _ h⟩

/-! ### what a value stands for -/
def keyD : Key → D
  | .inl i => .int i
  | .inr x => .str x
/-- a mark: the keys are tuples -/
def tagT : D × D := (.bool false, .int 1)
mutual
inductive Rep (K : Fg) (H : Hp) : V → D → Prop
  | non : Rep K H .non .none
  | bl (b : Bool) : Rep K H (.bl b) (.bool b)
  | int (i : Int) : Rep K H (.int i) (.int i)
  | str (x : Str) : Rep K H (.str x) (.str x)
  | lst {a : Addr} {vs : List V} {ds : List D} : H a = some (.lst vs) → RepA K H vs ds → Rep K H (.ref a) (.list ds)
  | tup {a : Addr} {vs : List V} {ds : List D} : H a = some (.tup vs) → RepA K H vs ds → Rep K H (.ref a) (.tuple ds)
  | dK {a : Addr} {ks : List (Key × V)} {kvs : List (D × D)} : Rd H a (.dK ks) → RepK K H ks kvs → Rep K H (.ref a) (.dict kvs)
  | dT {a : Addr} {ks : List (List Key × V)} {kvs : List (D × D)} : Rd H a (.dT ks) → RepT K H ks kvs → Rep K H (.ref a) (.dict (tagT :: kvs))
  | ins {a dx : Addr} {c : Str} {fs : List (Str × V)} {kvs : List (D × D)} : H a = some (.ins (He.ga K c) dx fs) → H dx = some (.own a) → RepI K H fs kvs → Rep K H (.ref a) (.dict ((.none, .str c) :: kvs))
inductive RepA (K : Fg) (H : Hp) : List V → List D → Prop
  | nil : RepA K H [] []
  | cons {v : V} {vs : List V} {d : D} {ds : List D} : Rep K H v d → RepA K H vs ds → RepA K H (v :: vs) (d :: ds)
inductive RepK (K : Fg) (H : Hp) : List (Key × V) → List (D × D) → Prop
  | nil : RepK K H [] []
  | cons {k : Key} {v : V} {ks : List (Key × V)} {d : D} {kvs : List (D × D)} : Rep K H v d → RepK K H ks kvs → RepK K H ((k, v) :: ks) ((keyD k, d) :: kvs)
inductive RepT (K : Fg) (H : Hp) : List (List Key × V) → List (D × D) → Prop
  | nil : RepT K H [] []
  | cons {k : List Key} {v : V} {ks : List (List Key × V)} {d : D} {kvs : List (D × D)} : Rep K H v d → RepT K H ks kvs → RepT K H ((k, v) :: ks) ((.tuple (k.map keyD), d) :: kvs)
inductive RepI (K : Fg) (H : Hp) : List (Str × V) → List (D × D) → Prop
  | nil : RepI K H [] []
  | cons {k : Str} {v : V} {ks : List (Str × V)} {d : D} {kvs : List (D × D)} : Rep K H v d → RepI K H ks kvs → RepI K H ((k, v) :: ks) ((.str k, d) :: kvs)
end
section
variable {K : Fg} {H H' : Hp}
mutual
theorem Rep.mono (e : Same H H') : ∀ {v : V} {d : D}, Rep K H v d → Rep K H' v d
  | _, _, .non => .non
  | _, _, .bl b => .bl b
  | _, _, .int i => .int i
  | _, _, .str x => .str x
  | _, _, .lst s r => .lst (e _ _ s) (RepA.mono e r)
  | _, _, .tup s r => .tup (e _ _ s) (RepA.mono e r)
  | _, _, .dK s r => .dK (Same.rd e s) (RepK.mono e r)
  | _, _, .dT s r => .dT (Same.rd e s) (RepT.mono e r)
  | _, _, .ins s t r => .ins (e _ _ s) (e _ _ t) (RepI.mono e r)
theorem RepA.mono (e : Same H H') : ∀ {vs : List V} {ds : List D}, RepA K H vs ds → RepA K H' vs ds
  | _, _, .nil => .nil
  | _, _, .cons a b => .cons (Rep.mono e a) (RepA.mono e b)
theorem RepK.mono (e : Same H H') : ∀ {vs : List (Key × V)} {ds : List (D × D)}, RepK K H vs ds → RepK K H' vs ds
  | _, _, .nil => .nil
  | _, _, .cons a b => .cons (Rep.mono e a) (RepK.mono e b)
theorem RepT.mono (e : Same H H') : ∀ {vs : List (List Key × V)} {ds : List (D × D)}, RepT K H vs ds → RepT K H' vs ds
  | _, _, .nil => .nil
  | _, _, .cons a b => .cons (Rep.mono e a) (RepT.mono e b)
theorem RepI.mono (e : Same H H') : ∀ {vs : List (Str × V)} {ds : List (D × D)}, RepI K H vs ds → RepI K H' vs ds
  | _, _, .nil => .nil
  | _, _, .cons a b => .cons (Rep.mono e a) (RepI.mono e b)
end
theorem RepA.length : ∀ {vs : List V} {ds : List D}, RepA K H vs ds → vs.length = ds.length
  | _, _, .nil => rfl
  | _, _, .cons _ r => congrArg Nat.succ r.length
theorem RepA.get : ∀ {vs : List V} {ds : List D} {i : Nat} {d : D}, RepA K H vs ds → ds[i]? = some d → ∃ v, vs[i]? = some v ∧ Rep K H v d
  | _, _, _, _, .nil, e => by simp at e
  | _, _, 0, _, .cons r _, e => by
    simp at e
    subst e
    exact ⟨_, rfl, r⟩
  | _, _, i + 1, _, .cons _ t, e => by
    obtain ⟨v, h1, h2⟩ := RepA.get (i := i) t (by simpa using e)
    exact ⟨v, by simpa using h1, h2⟩
theorem RepA.append : ∀ {vs ws : List V} {ds es : List D}, RepA K H vs ds → RepA K H ws es → RepA K H (vs ++ ws) (ds ++ es)
  | _, _, _, _, .nil, s => s
  | _, _, _, _, .cons r t, s => .cons r (RepA.append t s)
theorem RepA.take : ∀ {vs : List V} {ds : List D} (n : Nat), RepA K H vs ds → RepA K H (vs.take n) (ds.take n)
  | _, _, 0, _ => .nil
  | _, _, _ + 1, .nil => .nil
  | _, _, n + 1, .cons r t => .cons r (RepA.take n t)
theorem RepA.drop : ∀ {vs : List V} {ds : List D} (n : Nat), RepA K H vs ds → RepA K H (vs.drop n) (ds.drop n)
  | _, _, 0, r => r
  | _, _, _ + 1, .nil => .nil
  | _, _, n + 1, .cons _ t => RepA.drop n t
theorem RepA.rev : ∀ {vs : List V} {ds : List D}, RepA K H vs ds → RepA K H vs.reverse ds.reverse
  | _, _, .nil => .nil
  | _, _, .cons r t => by
    rw [List.reverse_cons, List.reverse_cons]
    exact RepA.append (RepA.rev t) (.cons r .nil)
theorem RepA.set {v : V} {d : D} (r : Rep K H v d) : ∀ {vs : List V} {ds : List D} (i : Nat), RepA K H vs ds → RepA K H (vs.set i v) (ds.set i d)
  | _, _, _, .nil => .nil
  | _, _, 0, .cons _ t => .cons r t
  | _, _, i + 1, .cons q t => .cons q (RepA.set r i t)
theorem RepA.dropLast : ∀ {vs : List V} {ds : List D}, RepA K H vs ds → RepA K H vs.dropLast ds.dropLast := fun {vs ds} r => by
  rw [List.dropLast_eq_take, List.dropLast_eq_take, r.length]
  exact r.take _
theorem RepA.ints : ∀ {vs : List V} {ns : List Int}, RepA K H vs (ns.map PyData.int) → vs = ns.map V.int
  | _, [], .nil => rfl
  | _, n :: ns, .cons r t => by
    cases r
    rw [RepA.ints (ns := ns) t]
    rfl
theorem RepA.of_ints : ∀ ns : List Int, RepA K H (ns.map V.int) (ns.map PyData.int)
  | [] => .nil
  | n :: ns => .cons (.int n) (RepA.of_ints ns)
theorem RepA.bls : ∀ {vs : List V} {ns : List Bool}, RepA K H vs (ns.map PyData.bool) → vs = ns.map V.bl
  | _, [], .nil => rfl
  | _, n :: ns, .cons r t => by
    cases r
    rw [RepA.bls (ns := ns) t]
    rfl
theorem RepA.strs : ∀ {vs : List V} {ns : List Str}, RepA K H vs (ns.map PyData.str) → vs = ns.map V.str
  | _, [], .nil => rfl
  | _, n :: ns, .cons r t => by
    cases r
    rw [RepA.strs (ns := ns) t]
    rfl
theorem RepA.of_strs : ∀ ns : List Str, RepA K H (ns.map V.str) (ns.map PyData.str)
  | [] => .nil
  | n :: ns => .cons (.str n) (RepA.of_strs ns)
end

/-! ### data without dicts, for == -/
mutual
def plain : D → Bool
  | .list ds => plainA ds
  | .tuple ds => plainA ds
  | .dict _ => false
  | _ => true
def plainA : List D → Bool
  | [] => true
  | d :: ds => plain d && plainA ds
end
section
variable {K : Fg} {H : Hp}
mutual
theorem Rep.dp : ∀ {v : V} {d : D}, Rep K H v d → plain d = true → Dp K H v d
  | _, _, .non, _ => .non
  | _, _, .bl b, _ => .bl b
  | _, _, .int i, _ => .int i
  | _, _, .str x, _ => .str x
  | _, _, .lst s r, h => .lst (.inl (.inl s)) (RepA.dp r h)
  | _, _, .tup s r, h => .tup (.inl (.inl s)) (RepA.dp r h)
  | _, _, .dK _ _, h => by cases h
  | _, _, .dT _ _, h => by cases h
  | _, _, .ins _ _ _, h => by cases h
theorem RepA.dp : ∀ {vs : List V} {ds : List D}, RepA K H vs ds → plainA ds = true → DpAll K H vs ds
  | _, _, .nil, _ => .nil
  | _, _, .cons a b, h => .cons (Rep.dp a (Bool.and_eq_true_iff.mp h).1) (RepA.dp b (Bool.and_eq_true_iff.mp h).2)
end
end

/-! ### slots, outcomes -/
/-- un: nothing is known; val: data that stay; own: an object of one's own, with data in it; arg: an object of the caller's that may be written; fn: a def; tre, atr: as own and arg, with own objects within (boxed); gho: an own object taken out of a tree for a while; tab: tables of code objects, with their names -/
inductive Slot where
  | un | val (d : D) | own (d : D) | arg (d : D) | fn (a : Addr) | tre (d : D) | atr (d : D) | gho (n : Nat) (d : D) | tab (T : List (Addr × Str))
abbrev En := List Slot
/-- an error: its class's name, its fields -/
structure Er where
  cls : Str
  fs : List (Str × D)
/-- a value: data that stay, or the object of the i-th slot -/
inductive Vl where
  | st (d : D) | at (i : Nat) | fn (a : Addr)
inductive O (α : Type) where
  | ok (a : α) (r : En) | er (e : Er) (r : En) | bad
def O.bind {α β : Type} : O α → (α → En → O β) → O β
  | .ok a r, f => f a r
  | .er e r, _ => .er e r
  | .bad, _ => .bad
inductive SO where
  | nx (r : En) | rt (d : D) (fr : Bool) (r : En) | bk (r : En) | ct (r : En) | er (e : Er) (r : En) | bad
abbrev EF := En → O Vl
abbrev CF := En → O D
abbrev BF := En → O Bool
abbrev AF := En → O (List Vl)
abbrev SF := En → SO
/-- a def's end: its answer (fr: a new object), what its own first argument holds then -/
inductive R where
  | ok (d : D) (fr : Bool) (out : D) | er (e : Er) (out : D) | bad

/-- the base that a def was entered with -/
structure Bs where
  Hs0 : Hp
  H0 : Hp
  own0 : Addr → Prop
  own1 : Addr → Prop
  rt : Addr → Prop
  pin : Nat → Option Addr
/-- new since then, or free to be taken -/
def Bs.nw (B : Bs) (p : Addr) : Prop := B.H0 p = none ∨ B.own1 p

/-- a tuple stands there: nobody's, never changed -/
def TupAt (H : Hp) (a : Addr) : Prop := ∃ xs, H a = some (.tup xs)
/-- an object that may be owned -/
def OwnAt (H : Hp) (a : Addr) : Prop := ∃ o, H a = some o ∧ ∀ xs, o ≠ .tup xs
theorem OwnAt.some {H : Hp} {a : Addr} (h : OwnAt H a) : ∃ o, H a = Option.some o := let ⟨o, e, _⟩ := h; ⟨o, e⟩
theorem OwnAt.notup {H : Hp} {a : Addr} (h : OwnAt H a) (t : TupAt H a) : False := let ⟨_, e, n⟩ := h; let ⟨xs, q⟩ := t; n xs (Option.some.inj (e.symm.trans q))
theorem OwnAt.nofree {H : Hp} {a : Addr} (h : OwnAt H a) (t : H a = none ∨ TupAt H a) : False := t.elim (fun n => by obtain ⟨o, e⟩ := h.some; rw [n] at e; cases e) h.notup
def Cont (K : Fg) (Hs H : Hp) (p : Addr) : D → Prop
  | .list ds => ∃ vs, H p = some (.lst vs) ∧ RepA K Hs vs ds
  | .dict kvs => (∃ ks, H p = some (.dK ks) ∧ RepK K Hs ks kvs) ∨ ∃ ks es, kvs = tagT :: es ∧ H p = some (.dT ks) ∧ RepT K Hs ks es
  | _ => False
theorem Cont.mono {K : Fg} {Hs H Hs' H' : Hp} {p : Addr} {d : D} (c : Cont K Hs H p d) (e : Same Hs Hs') (h : H' p = H p) : Cont K Hs' H' p d := by
  cases d with
  | list ds => obtain ⟨vs, a, b⟩ := c; exact ⟨vs, h.trans a, b.mono e⟩
  | dict kvs =>
    rcases c with ⟨ks, a, b⟩ | ⟨ks, es, ee, a, b⟩
    · exact .inl ⟨ks, h.trans a, b.mono e⟩
    · exact .inr ⟨ks, es, ee, h.trans a, b.mono e⟩
  | _ => exact c.elim
theorem Cont.there {K : Fg} {Hs H : Hp} {p : Addr} {d : D} (c : Cont K Hs H p d) : ∃ o, H p = some o := by
  cases d with
  | list ds => obtain ⟨vs, a, b⟩ := c; exact ⟨_, a⟩
  | dict kvs =>
    rcases c with ⟨ks, a, b⟩ | ⟨ks, es, ee, a, b⟩
    · exact ⟨_, a⟩
    · exact ⟨_, a⟩
  | _ => exact c.elim
theorem Cont.own {K : Fg} {Hs H : Hp} {p : Addr} {d : D} (c : Cont K Hs H p d) : OwnAt H p := by
  cases d with
  | list ds => obtain ⟨vs, a, b⟩ := c; exact ⟨_, a, fun _ => nofun⟩
  | dict kvs =>
    rcases c with ⟨ks, a, b⟩ | ⟨ks, es, ee, a, b⟩
    · exact ⟨_, a, fun _ => nofun⟩
    · exact ⟨_, a, fun _ => nofun⟩
  | _ => exact c.elim
/-- an own object read as data, under the whole heap -/
theorem Cont.rep {K : Fg} {Hs H : Hp} {p : Addr} {d : D} (c : Cont K Hs H p d) (e : Same Hs H) : Rep K H (.ref p) d := by
  cases d with
  | list ds => obtain ⟨vs, a, b⟩ := c; exact .lst a (b.mono e)
  | dict kvs =>
    rcases c with ⟨ks, a, b⟩ | ⟨ks, es, rfl, a, b⟩
    · exact .dK (.inl a) (b.mono e)
    · exact .dT (.inl a) (b.mono e)
  | _ => exact c.elim

/-! ### trees: own objects within own objects -/
/-- a mark: an own object with this in it -/
def bx (d : D) : D := .dict [(.bool true, d)]
abbrev Pin := Nat → Option Addr
mutual
/-- v is an own object, or data that stay; the addresses that it owns -/
inductive Tre (K : Fg) (P : Pin) (Hs H : Hp) : V → D → List Addr → Prop
  | st {v : V} {d : D} : Rep K Hs v d → Tre K P Hs H v d []
  | lst {a : Addr} {vs : List V} {ds : List D} {f : List Addr} : H a = some (.lst vs) → Hs a = none → TreA K P Hs H vs ds f → Tre K P Hs H (.ref a) (bx (.list ds)) (a :: f)
  | dK {a : Addr} {ks : List (Key × V)} {kvs : List (D × D)} {f : List Addr} : H a = some (.dK ks) → Hs a = none → TreK K P Hs H ks kvs f → Tre K P Hs H (.ref a) (bx (.dict kvs)) (a :: f)
  | dT {a : Addr} {ks : List (List Key × V)} {kvs : List (D × D)} {f : List Addr} : H a = some (.dT ks) → Hs a = none → TreT K P Hs H ks kvs f → Tre K P Hs H (.ref a) (bx (.dict (tagT :: kvs))) (a :: f)
  | ins {a dx : Addr} {c : Str} {fs : List (Str × V)} {kvs : List (D × D)} {f : List Addr} : H a = some (.ins (He.ga K c) dx fs) → H dx = some (.own a) → Hs a = none → Hs dx = none → TreI K P Hs H fs kvs f → Tre K P Hs H (.ref a) (bx (.dict ((.none, .str c) :: kvs))) (a :: dx :: f)
inductive TreA (K : Fg) (P : Pin) (Hs H : Hp) : List V → List D → List Addr → Prop
  | nil : TreA K P Hs H [] [] []
  | cons {v : V} {vs : List V} {d : D} {ds : List D} {f g : List Addr} : Tre K P Hs H v d f → TreA K P Hs H vs ds g → TreA K P Hs H (v :: vs) (d :: ds) (f ++ g)
inductive TreK (K : Fg) (P : Pin) (Hs H : Hp) : List (Key × V) → List (D × D) → List Addr → Prop
  | nil : TreK K P Hs H [] [] []
  | cons {k : Key} {v : V} {ks : List (Key × V)} {d : D} {kvs : List (D × D)} {f g : List Addr} : Tre K P Hs H v d f → TreK K P Hs H ks kvs g → TreK K P Hs H ((k, v) :: ks) ((keyD k, d) :: kvs) (f ++ g)
inductive TreT (K : Fg) (P : Pin) (Hs H : Hp) : List (List Key × V) → List (D × D) → List Addr → Prop
  | nil : TreT K P Hs H [] [] []
  | cons {k : List Key} {v : V} {ks : List (List Key × V)} {d : D} {kvs : List (D × D)} {f g : List Addr} : Tre K P Hs H v d f → TreT K P Hs H ks kvs g → TreT K P Hs H ((k, v) :: ks) ((.tuple (k.map keyD), d) :: kvs) (f ++ g)
inductive TreI (K : Fg) (P : Pin) (Hs H : Hp) : List (Str × V) → List (D × D) → List Addr → Prop
  | nil : TreI K P Hs H [] [] []
  | cons {k : Str} {v : V} {ks : List (Str × V)} {d : D} {kvs : List (D × D)} {f g : List Addr} : Tre K P Hs H v d f → TreI K P Hs H ks kvs g → TreI K P Hs H ((k, v) :: ks) ((.str k, d) :: kvs) (f ++ g)
end
section
variable {K : Fg} {P P' : Pin} {Hs H Hs' H' : Hp}
mutual
/-- what it owns stands as it stood: so does it -/
theorem Tre.mono (e : Same Hs Hs') (ep : ∀ n a, P n = some a → P' n = some a) : ∀ {v : V} {d : D} {f : List Addr}, Tre K P Hs H v d f → (∀ a ∈ f, ∀ o, H a = some o → H' a = some o) → (∀ a ∈ f, Hs a = none → Hs' a = none) → Tre K P' Hs' H' v d f
  | _, _, _, .st r, _, _ => .st (r.mono e)
  | _, _, _, .lst h n r, k, m => .lst (k _ List.mem_cons_self _ h) (m _ List.mem_cons_self n) (TreA.mono e ep r (fun a i => k a (List.mem_cons_of_mem _ i)) fun a i => m a (List.mem_cons_of_mem _ i))
  | _, _, _, .dK h n r, k, m => .dK (k _ List.mem_cons_self _ h) (m _ List.mem_cons_self n) (TreK.mono e ep r (fun a i => k a (List.mem_cons_of_mem _ i)) fun a i => m a (List.mem_cons_of_mem _ i))
  | _, _, _, .dT h n r, k, m => .dT (k _ List.mem_cons_self _ h) (m _ List.mem_cons_self n) (TreT.mono e ep r (fun a i => k a (List.mem_cons_of_mem _ i)) fun a i => m a (List.mem_cons_of_mem _ i))
  | _, _, _, .ins h h2 n n2 r, k, m => .ins (k _ List.mem_cons_self _ h) (k _ (List.mem_cons_of_mem _ List.mem_cons_self) _ h2) (m _ List.mem_cons_self n) (m _ (List.mem_cons_of_mem _ List.mem_cons_self) n2) (TreI.mono e ep r (fun a i => k a (List.mem_cons_of_mem _ (List.mem_cons_of_mem _ i))) fun a i => m a (List.mem_cons_of_mem _ (List.mem_cons_of_mem _ i)))
theorem TreA.mono (e : Same Hs Hs') (ep : ∀ n a, P n = some a → P' n = some a) : ∀ {v : List V} {d : List D} {f : List Addr}, TreA K P Hs H v d f → (∀ a ∈ f, ∀ o, H a = some o → H' a = some o) → (∀ a ∈ f, Hs a = none → Hs' a = none) → TreA K P' Hs' H' v d f
  | _, _, _, .nil, _, _ => .nil
  | _, _, _, .cons a b, k, m => .cons (Tre.mono e ep a (fun c i => k c (List.mem_append_left _ i)) fun c i => m c (List.mem_append_left _ i)) (TreA.mono e ep b (fun c i => k c (List.mem_append_right _ i)) fun c i => m c (List.mem_append_right _ i))
theorem TreK.mono (e : Same Hs Hs') (ep : ∀ n a, P n = some a → P' n = some a) : ∀ {v : List (Key × V)} {d : List (D × D)} {f : List Addr}, TreK K P Hs H v d f → (∀ a ∈ f, ∀ o, H a = some o → H' a = some o) → (∀ a ∈ f, Hs a = none → Hs' a = none) → TreK K P' Hs' H' v d f
  | _, _, _, .nil, _, _ => .nil
  | _, _, _, .cons a b, k, m => .cons (Tre.mono e ep a (fun c i => k c (List.mem_append_left _ i)) fun c i => m c (List.mem_append_left _ i)) (TreK.mono e ep b (fun c i => k c (List.mem_append_right _ i)) fun c i => m c (List.mem_append_right _ i))
theorem TreT.mono (e : Same Hs Hs') (ep : ∀ n a, P n = some a → P' n = some a) : ∀ {v : List (List Key × V)} {d : List (D × D)} {f : List Addr}, TreT K P Hs H v d f → (∀ a ∈ f, ∀ o, H a = some o → H' a = some o) → (∀ a ∈ f, Hs a = none → Hs' a = none) → TreT K P' Hs' H' v d f
  | _, _, _, .nil, _, _ => .nil
  | _, _, _, .cons a b, k, m => .cons (Tre.mono e ep a (fun c i => k c (List.mem_append_left _ i)) fun c i => m c (List.mem_append_left _ i)) (TreT.mono e ep b (fun c i => k c (List.mem_append_right _ i)) fun c i => m c (List.mem_append_right _ i))
theorem TreI.mono (e : Same Hs Hs') (ep : ∀ n a, P n = some a → P' n = some a) : ∀ {v : List (Str × V)} {d : List (D × D)} {f : List Addr}, TreI K P Hs H v d f → (∀ a ∈ f, ∀ o, H a = some o → H' a = some o) → (∀ a ∈ f, Hs a = none → Hs' a = none) → TreI K P' Hs' H' v d f
  | _, _, _, .nil, _, _ => .nil
  | _, _, _, .cons a b, k, m => .cons (Tre.mono e ep a (fun c i => k c (List.mem_append_left _ i)) fun c i => m c (List.mem_append_left _ i)) (TreI.mono e ep b (fun c i => k c (List.mem_append_right _ i)) fun c i => m c (List.mem_append_right _ i))
end
end
section
variable {K : Fg} {P : Pin} {Hs H : Hp}
mutual
/-- what it owns is there -/
theorem Tre.there : ∀ {v : V} {d : D} {f : List Addr}, Tre K P Hs H v d f → ∀ a ∈ f, OwnAt H a ∧ Hs a = none
  | _, _, _, .st _, a, i => by cases i
  | _, _, _, .lst h n r, a, i => (List.mem_cons.mp i).elim (fun e => by rw [e]; exact ⟨⟨_, h, fun _ => nofun⟩, n⟩) (TreA.there r a)
  | _, _, _, .dK h n r, a, i => (List.mem_cons.mp i).elim (fun e => by rw [e]; exact ⟨⟨_, h, fun _ => nofun⟩, n⟩) (TreK.there r a)
  | _, _, _, .dT h n r, a, i => (List.mem_cons.mp i).elim (fun e => by rw [e]; exact ⟨⟨_, h, fun _ => nofun⟩, n⟩) (TreT.there r a)
  | _, _, _, .ins h h2 n n2 r, a, i => (List.mem_cons.mp i).elim (fun e => by rw [e]; exact ⟨⟨_, h, fun _ => nofun⟩, n⟩) fun i => (List.mem_cons.mp i).elim (fun e => by rw [e]; exact ⟨⟨_, h2, fun _ => nofun⟩, n2⟩) (TreI.there r a)
theorem TreA.there : ∀ {v : List V} {d : List D} {f : List Addr}, TreA K P Hs H v d f → ∀ a ∈ f, OwnAt H a ∧ Hs a = none
  | _, _, _, .nil, a, i => by cases i
  | _, _, _, .cons x y, a, i => (List.mem_append.mp i).elim (Tre.there x a) (TreA.there y a)
theorem TreK.there : ∀ {v : List (Key × V)} {d : List (D × D)} {f : List Addr}, TreK K P Hs H v d f → ∀ a ∈ f, OwnAt H a ∧ Hs a = none
  | _, _, _, .nil, a, i => by cases i
  | _, _, _, .cons x y, a, i => (List.mem_append.mp i).elim (Tre.there x a) (TreK.there y a)
theorem TreT.there : ∀ {v : List (List Key × V)} {d : List (D × D)} {f : List Addr}, TreT K P Hs H v d f → ∀ a ∈ f, OwnAt H a ∧ Hs a = none
  | _, _, _, .nil, a, i => by cases i
  | _, _, _, .cons x y, a, i => (List.mem_append.mp i).elim (Tre.there x a) (TreT.there y a)
theorem TreI.there : ∀ {v : List (Str × V)} {d : List (D × D)} {f : List Addr}, TreI K P Hs H v d f → ∀ a ∈ f, OwnAt H a ∧ Hs a = none
  | _, _, _, .nil, a, i => by cases i
  | _, _, _, .cons x y, a, i => (List.mem_append.mp i).elim (Tre.there x a) (TreI.there y a)
end
end
/-- a tree at p -/
def TreP (K : Fg) (P : Pin) (Hs H : Hp) (p : Addr) (d : D) (f : List Addr) : Prop := Tre K P Hs H (.ref p) (bx d) f ∧ p ∈ f ∧ f.Nodup

/-- tables of code objects, and the code objects in them -/
def TabF (Hs H : Hp) (T : List (Addr × Str)) (f : List Addr) : Prop := (∀ a ∈ f, OwnAt H a ∧ Hs a = none) ∧ ∀ p ∈ T, p.1 ∈ f ∧ ∃ ps : Array Value, H p.1 = some (.tbl ps) ∧ TriplesOk ps.toList ∧ ∀ (pos : Pos) (cv : Value), codeAmong pos ps.toList = some cv → ∃ c ∈ f, cv = .ref c ∧ H c = some (LamX.CodeO c p.2)
theorem TabF.mono {Hs H Hs' H' : Hp} {T : List (Addr × Str)} {f : List Addr} (t : TabF Hs H T f) (k : ∀ a ∈ f, ∀ o, H a = some o → H' a = some o) (m : ∀ a ∈ f, Hs a = none → Hs' a = none) : TabF Hs' H' T f := ⟨fun a i => by
  obtain ⟨⟨o, e, n⟩, z⟩ := t.1 a i
  exact ⟨⟨o, k a i o e, n⟩, m a i z⟩, fun p hp => by
  obtain ⟨i, ps, h1, h2, h3⟩ := t.2 p hp
  refine ⟨i, ps, k _ i _ h1, h2, fun pos cv hc => ?_⟩
  obtain ⟨c, ci, e1, e2⟩ := h3 pos cv hc
  exact ⟨c, ci, e1, k c ci _ e2⟩⟩
theorem TabF.tabs {Hs H : Hp} {T : List (Addr × Str)} {f : List Addr} (t : TabF Hs H T f) : LamX.Tabs T H := fun p hp => by
  obtain ⟨_, ps, h1, h2, h3⟩ := t.2 p hp
  refine ⟨ps, h1, h2, fun pos cv hc => ?_⟩
  obtain ⟨c, _, e1, e2⟩ := h3 pos cv hc
  exact ⟨c, e1, e2⟩
def SlotOk (K : Fg) (B : Bs) (Hs H : Hp) (x : Option V) : Slot → Prop
  | .un => True
  | .val d => ∃ v, x = some v ∧ Rep K Hs v d
  | .own d => ∃ p, x = some (.ref p) ∧ Hs p = none ∧ B.nw p ∧ Cont K Hs H p d
  | .arg d => ∃ p, x = some (.ref p) ∧ Hs p = none ∧ (B.rt p ∧ (B.nw p ∨ B.own0 p)) ∧ Cont K Hs H p d
  | .fn a => x = some (.ref a)
  | .gho n d => ∃ p f, B.pin n = some p ∧ TreP K B.pin Hs H p d f ∧ ∀ a ∈ f, B.nw a ∨ B.own0 a
  | .tab T => ∃ f, TabF Hs H T f ∧ ∀ a ∈ f, B.nw a ∨ B.own0 a
  | .tre d => ∃ p f, x = some (.ref p) ∧ TreP K B.pin Hs H p d f ∧ ∀ a ∈ f, B.nw a
  | .atr d => ∃ p f, x = some (.ref p) ∧ TreP K B.pin Hs H p d f ∧ B.rt p ∧ ∀ a ∈ f, B.nw a ∨ B.own0 a
def Slot.mut : Slot → Bool
  | .own _ => true
  | .arg _ => true
  | .tre _ => true
  | .atr _ => true
  | .gho _ _ => true
  | .tab _ => true
  | _ => false
/-- its object is the name's -/
def Slot.nmd : Slot → Bool
  | .gho _ _ => false
  | .tab _ => false
  | s => s.mut
/-- what a slot owns -/
def Feet (K : Fg) (B : Bs) (Hs H : Hp) (x : Option V) (s : Slot) (f : List Addr) : Prop := match s with
  | .own _ => ∃ p, x = some (.ref p) ∧ f = [p]
  | .arg _ => ∃ p, x = some (.ref p) ∧ f = [p]
  | .tre d => ∃ p, x = some (.ref p) ∧ TreP K B.pin Hs H p d f ∧ ∀ a ∈ f, B.nw a
  | .atr d => ∃ p, x = some (.ref p) ∧ TreP K B.pin Hs H p d f ∧ B.rt p ∧ ∀ a ∈ f, B.nw a ∨ B.own0 a
  | .gho n d => ∃ p, B.pin n = some p ∧ TreP K B.pin Hs H p d f ∧ ∀ a ∈ f, B.nw a ∨ B.own0 a
  | .tab T => TabF Hs H T f ∧ ∀ a ∈ f, B.nw a ∨ B.own0 a
  | _ => f = []
/-- the slots own each for itself -/
structure FeetOk (K : Fg) (B : Bs) (Hs H : Hp) (σ : L2.St) (ρ : En) (F : Nat → List Addr) : Prop where
  at_ : ∀ (i : Nat) (x : Option V) (s : Slot), σ[i]? = some x → ρ[i]? = some s → Feet K B Hs H x s (F i)
  out : ∀ i, ρ[i]? = none → F i = []
  dis : ∀ i j, i ≠ j → ∀ a ∈ F i, a ∉ F j

structure Sl (K : Fg) (B : Bs) (Hs H : Hp) (σ : L2.St) (ρ : En) : Prop where
  len : σ.length = ρ.length
  ok : ∀ (i : Nat) (x : Option V) (s : Slot), σ[i]? = some x → ρ[i]? = some s → SlotOk K B Hs H x s
  sub : Same Hs H
  base : Same B.Hs0 Hs
  new : ∀ a, Hs a = none ∨ B.Hs0 a ≠ none ∨ (B.nw a ∨ TupAt H a)
  keep : ∀ a o, B.H0 a = some o → ¬ B.own0 a → ¬ B.own1 a → H a = some o
  there : ∀ a, B.own0 a ∨ B.own1 a → ∃ o, H a = some o
  feet : ∃ F, FeetOk K B Hs H σ ρ F
section
variable {K : Fg} {B : Bs} {Hs H Hs' H' : Hp} {σ : L2.St} {ρ : En}
theorem Feet.root {x : Option V} {s : Slot} {f : List Addr} (h : Feet K B Hs H x s f) (m : s.nmd = true) : ∃ p, x = some (.ref p) ∧ p ∈ f := by
  cases s with
  | own d => obtain ⟨p, e, rfl⟩ := h; exact ⟨p, e, List.mem_singleton_self p⟩
  | arg d => obtain ⟨p, e, rfl⟩ := h; exact ⟨p, e, List.mem_singleton_self p⟩
  | tre d => obtain ⟨p, e, t, _⟩ := h; exact ⟨p, e, t.2.1⟩
  | atr d => obtain ⟨p, e, t, _⟩ := h; exact ⟨p, e, t.2.1⟩
  | _ => cases m
theorem Sl.apart (sl : Sl K B Hs H σ ρ) (i j : Nat) (s t : Slot) (p : Addr) (hij : i ≠ j) (a1 : ρ[i]? = some s) (a2 : s.nmd = true) (b1 : ρ[j]? = some t) (b2 : t.nmd = true) (c1 : σ[i]? = some (some (.ref p))) : σ[j]? ≠ some (some (.ref p)) := fun c2 => by
  obtain ⟨F, h⟩ := sl.feet
  obtain ⟨p1, e1, m1⟩ := (h.at_ i _ s c1 a1).root a2
  obtain ⟨p2, e2, m2⟩ := (h.at_ j _ t c2 b1).root b2
  cases e1
  cases e2
  exact h.dis i j hij p m1 m2
/-- a slot's feet are there and not stable -/
theorem Feet.there {x : Option V} {s : Slot} {f : List Addr} (h : Feet K B Hs H x s f) (o : SlotOk K B Hs H x s) : ∀ a ∈ f, OwnAt H a ∧ Hs a = none := fun a i => by
  cases s with
  | own d =>
    obtain ⟨p, rfl, rfl⟩ := h
    obtain ⟨p', e, n, z, c⟩ := o
    cases e
    rw [List.mem_singleton] at i
    subst i
    exact ⟨c.own, n⟩
  | arg d =>
    obtain ⟨p, rfl, rfl⟩ := h
    obtain ⟨p', e, n, z, c⟩ := o
    cases e
    rw [List.mem_singleton] at i
    subst i
    exact ⟨c.own, n⟩
  | tre d => obtain ⟨p, e, t, _⟩ := h; exact t.1.there a i
  | atr d => obtain ⟨p, e, t, _⟩ := h; exact t.1.there a i
  | gho n d => obtain ⟨p, e, t, _⟩ := h; exact t.1.there a i
  | tab T => exact h.1.1 a i
  | un => have h : f = [] := h; rw [h] at i; cases i
  | val d => have h : f = [] := h; rw [h] at i; cases i
  | fn d => have h : f = [] := h; rw [h] at i; cases i
theorem TreP.mono {p : Addr} {d : D} {f : List Addr} {P : Pin} (t : TreP K P Hs H p d f) (e : Same Hs Hs') (k : ∀ a ∈ f, ∀ o, H a = some o → H' a = some o) (m : ∀ a ∈ f, Hs a = none → Hs' a = none) : TreP K P Hs' H' p d f := ⟨t.1.mono e (fun _ _ z => z) k m, t.2⟩
theorem Feet.mono {x : Option V} {s : Slot} {f : List Addr} (h : Feet K B Hs H x s f) (e : Same Hs Hs') (k : ∀ a ∈ f, ∀ o, H a = some o → H' a = some o) (m : ∀ a ∈ f, Hs a = none → Hs' a = none) : Feet K B Hs' H' x s f := by
  cases s with
  | tre d => obtain ⟨p, e1, t, z⟩ := h; exact ⟨p, e1, t.mono e k m, z⟩
  | atr d => obtain ⟨p, e1, t, z⟩ := h; exact ⟨p, e1, t.mono e k m, z⟩
  | gho n d => obtain ⟨p, e1, t, z⟩ := h; exact ⟨p, e1, t.mono e k m, z⟩
  | tab T => exact ⟨h.1.mono k m, h.2⟩
  | _ => exact h
/-- what a slot owns stands: so does the slot -/
theorem SlotOk.stays {x : Option V} {s : Slot} {f : List Addr} (o : SlotOk K B Hs H x s) (h : Feet K B Hs H x s f) (e : Same Hs Hs') (k : ∀ a ∈ f, ∀ o, H a = some o → H' a = some o) (m : ∀ a ∈ f, Hs a = none → Hs' a = none) : SlotOk K B Hs' H' x s := by
  cases s with
  | un => trivial
  | val d => obtain ⟨v, e1, r⟩ := o; exact ⟨v, e1, r.mono e⟩
  | fn a => exact o
  | own d =>
    obtain ⟨p, rfl, rfl⟩ := h
    obtain ⟨p', e1, n, z, c⟩ := o
    cases e1
    obtain ⟨ob, hb⟩ := c.there
    exact ⟨p, rfl, m p (List.mem_singleton_self p) n, z, c.mono e ((k p (List.mem_singleton_self p) ob hb).trans hb.symm)⟩
  | arg d =>
    obtain ⟨p, rfl, rfl⟩ := h
    obtain ⟨p', e1, n, z, c⟩ := o
    cases e1
    obtain ⟨ob, hb⟩ := c.there
    exact ⟨p, rfl, m p (List.mem_singleton_self p) n, z, c.mono e ((k p (List.mem_singleton_self p) ob hb).trans hb.symm)⟩
  | tre d => obtain ⟨p, e1, t, z⟩ := h; exact ⟨p, f, e1, t.mono e k m, z⟩
  | atr d => obtain ⟨p, e1, t, z⟩ := h; exact ⟨p, f, e1, t.mono e k m, z⟩
  | gho n d => obtain ⟨p, e1, t, z⟩ := h; exact ⟨p, f, e1, t.mono e k m, z⟩
  | tab T => exact ⟨f, h.1.mono k m, h.2⟩
end

/-- the stable heap and the heap grow: new objects alone, all that was stays -/
structure Grow (Hs H Hs' H' : Hp) : Prop where
  s : Same Hs Hs'
  h : Same H H'
  sub : Same Hs' H'
  new : ∀ a, Hs' a = none ∨ Hs a ≠ none ∨ (H a = none ∨ TupAt H a)
theorem Grow.refl {Hs H : Hp} (s : Same Hs H) : Grow Hs H Hs H := ⟨.refl _, .refl _, s, fun a => by
  cases h : Hs a with
  | none => exact .inl rfl
  | some o => exact .inr (.inl (by simp))⟩
theorem Grow.trans {Hs H Hs1 H1 Hs2 H2 : Hp} (a : Grow Hs H Hs1 H1) (b : Grow Hs1 H1 Hs2 H2) : Grow Hs H Hs2 H2 :=
  ⟨a.s.trans b.s, a.h.trans b.h, b.sub, fun p => by
    rcases b.new p with h | h | h
    · exact .inl h
    · rcases a.new p with g | g | g
      · exact absurd g h
      · exact .inr (.inl g)
      · exact .inr (.inr g)
    · rcases h with h | ⟨xs, h⟩
      · exact .inr (.inr (.inl (a.h.free h)))
      · cases q : H p with
        | none => exact .inr (.inr (.inl rfl))
        | some o => exact .inr (.inr (.inr ⟨xs, q.trans ((a.h _ _ q).symm.trans h)⟩))⟩
/-- a new object, stable from the start -/
theorem Grow.laid {Hs H : Hp} {p : Addr} {o : HO} (s : Same Hs H) (n : H p = none) : Grow Hs H (upd Hs p o) (upd H p o) := by
  have ns : Hs p = none := s.free n
  refine ⟨same_upd ns, same_upd n, fun b x e => ?_, fun a => ?_⟩
  · by_cases h : b = p
    · subst h; rw [upd_same] at e ⊢; exact e
    · rw [upd_ne h] at e ⊢; exact s _ _ e
  · by_cases h : a = p
    · subst h; exact .inr (.inr (.inl n))
    · rw [upd_ne h]
      cases q : Hs a with
      | none => exact .inl rfl
      | some o => exact .inr (.inl (by simp))
/-- a new object that isn't stable (yet) -/
theorem Grow.loose {Hs H : Hp} {p : Addr} {o : HO} (s : Same Hs H) (n : H p = none) : Grow Hs H Hs (upd H p o) :=
  ⟨.refl _, same_upd n, same_into s (s.free n), (Grow.refl s).new⟩

section
variable {K : Fg} {B : Bs} {Hs H Hs' H' : Hp} {σ : L2.St} {ρ : En}
/-- what isn't in H now was not there -/
theorem Sl.nw_of (sl : Sl K B Hs H σ ρ) {a : Addr} (h : H a = none) : B.nw a := by
  cases q : B.H0 a with
  | none => exact .inl q
  | some o =>
    by_cases w : B.own0 a
    · obtain ⟨u, q⟩ := sl.there a (.inl w)
      rw [h] at q; cases q
    · by_cases w1 : B.own1 a
      · exact .inr w1
      · have := sl.keep a o q w w1
        rw [h] at this; cases this
theorem Sl.grow (sl : Sl K B Hs H σ ρ) (g : Grow Hs H Hs' H') : Sl K B Hs' H' σ ρ where
  len := sl.len
  ok := fun i x s a b => by
    obtain ⟨F, h⟩ := sl.feet
    have th := (h.at_ i x s a b).there (sl.ok i x s a b)
    exact (sl.ok i x s a b).stays (h.at_ i x s a b) g.s (fun c _ o e => g.h _ _ e) fun c hc n => by
      rcases g.new c with q | q | q
      · exact q
      · exact absurd n q
      · exact ((th c hc).1.nofree q).elim
  sub := g.sub
  base := sl.base.trans g.s
  new := fun a => by
    rcases g.new a with h | h | h
    · exact .inl h
    · rcases sl.new a with q | q | q
      · exact absurd q h
      · exact .inr (.inl q)
      · exact .inr (.inr (q.imp id fun ⟨xs, e⟩ => ⟨xs, g.h _ _ e⟩))
    · rcases h with h | ⟨xs, h⟩
      · exact .inr (.inr (.inl (sl.nw_of h)))
      · exact .inr (.inr (.inr ⟨xs, g.h _ _ h⟩))
  keep := fun a o e n m => g.h _ _ (sl.keep a o e n m)
  there := fun a w => let ⟨o, e⟩ := sl.there a w; ⟨o, g.h _ _ e⟩
  feet := by
    obtain ⟨F, h⟩ := sl.feet
    refine ⟨F, ⟨fun i x s a b => ?_, h.out, h.dis⟩⟩
    have th := (h.at_ i x s a b).there (sl.ok i x s a b)
    exact (h.at_ i x s a b).mono g.s (fun c _ o e => g.h _ _ e) fun c hc n => by
      rcases g.new c with q | q | q
      · exact q
      · exact absurd n q
      · exact ((th c hc).1.nofree q).elim
end
end DL

/-! DL2 -/
namespace DL
open PySem PySem.Spec PyProof.Rows L2

abbrev MG := Str → Option Value
/-! ### values -/
def VlOk (K : Fg) (Hs : Hp) (σ : L2.St) (v : V) : Vl → Prop
  | .st d => Rep K Hs v d
  | .at i => σ[i]? = some (some v)
  | .fn a => v = .ref a
def Slot.get : Slot → Option D
  | .val d => some d
  | .own d => some d
  | .arg d => some d
  | _ => none
def Vl.get (ρ : En) : Vl → Option D
  | .st d => some d
  | .at i => (ρ[i]?).bind Slot.get
  | .fn _ => none
/-- the top of it lies in H, what is in it stays -/
def Shal (K : Fg) (Hs H : Hp) (v : V) (d : D) : Prop := Rep K Hs v d ∨ ∃ p, v = .ref p ∧ Cont K Hs H p d
theorem Shal.rep {K : Fg} {Hs H : Hp} {v : V} {d : D} (s : Shal K Hs H v d) (e : Same Hs H) : Rep K H v d := by
  rcases s with h | ⟨p, rfl, c⟩
  · exact h.mono e
  · exact c.rep e
theorem Shal.grow {K : Fg} {Hs H Hs' H' : Hp} {v : V} {d : D} (s : Shal K Hs H v d) (g : Grow Hs H Hs' H') : Shal K Hs' H' v d := by
  rcases s with h | ⟨p, rfl, c⟩
  · exact .inl (h.mono g.s)
  · obtain ⟨o, e⟩ := c.there
    exact .inr ⟨p, rfl, c.mono g.s ((g.h _ _ e).trans e.symm)⟩
section
variable {K : Fg} {B : Bs} {Hs H : Hp} {σ : L2.St} {ρ : En}
theorem Sl.look (sl : Sl K B Hs H σ ρ) {v : V} {x : Vl} {d : D} (h : VlOk K Hs σ v x) (g : x.get ρ = some d) : Shal K Hs H v d := by
  cases x with
  | fn a => cases g
  | st d' =>
    cases g
    exact .inl h
  | «at» i =>
    have g : (ρ[i]?).bind Slot.get = some d := g
    cases e : ρ[i]? with
    | none => rw [e] at g; cases g
    | some s =>
      rw [e] at g
      have o := sl.ok i _ s h e
      cases s with
      | un => cases g
      | fn a => cases g
      | tre d => cases g
      | atr d => cases g
      | gho n d => cases g
      | tab T => cases g
      | val d' =>
        cases g
        obtain ⟨v', e1, r⟩ := o
        cases e1
        exact .inl r
      | own d' =>
        cases g
        obtain ⟨p, e1, _, _, c⟩ := o
        cases e1
        exact .inr ⟨p, rfl, c⟩
      | arg d' =>
        cases g
        obtain ⟨p, e1, _, _, c⟩ := o
        cases e1
        exact .inr ⟨p, rfl, c⟩
end
/-! lists, tuples seen through Shal -/
section
variable {K : Fg} {Hs H : Hp} {v : V} {ds : List D}
theorem Shal.lst (s : Shal K Hs H v (.list ds)) (e : Same Hs H) : ∃ p vs, v = .ref p ∧ H p = some (.lst vs) ∧ RepA K Hs vs ds := by
  rcases s with h | ⟨p, rfl, c⟩
  · cases h with
    | lst s r => exact ⟨_, _, rfl, e _ _ s, r⟩
  · obtain ⟨vs, h, r⟩ := c
    exact ⟨p, vs, rfl, h, r⟩
theorem Shal.tup (s : Shal K Hs H v (.tuple ds)) (e : Same Hs H) : ∃ p vs, v = .ref p ∧ SqT K H p vs ∧ RepA K Hs vs ds := by
  rcases s with h | ⟨p, rfl, c⟩
  · cases h with
    | tup s r => exact ⟨_, _, rfl, .inl (.inl (e _ _ s)), r⟩
  · exact c.elim
theorem Shal.tupH (s : Shal K Hs H v (.tuple ds)) (e : Same Hs H) : ∃ p vs, v = .ref p ∧ H p = some (.tup vs) ∧ RepA K Hs vs ds := by
  rcases s with h | ⟨p, rfl, c⟩
  · cases h with
    | tup s r => exact ⟨_, _, rfl, e _ _ s, r⟩
  · exact c.elim
theorem Shal.int {i : Int} (s : Shal K Hs H v (.int i)) : v = .int i := by
  rcases s with h | ⟨p, rfl, c⟩
  · cases h; rfl
  · exact c.elim
theorem Shal.str {i : Str} (s : Shal K Hs H v (.str i)) : v = .str i := by
  rcases s with h | ⟨p, rfl, c⟩
  · cases h; rfl
  · exact c.elim
theorem Shal.bl {i : Bool} (s : Shal K Hs H v (.bool i)) : v = .bl i := by
  rcases s with h | ⟨p, rfl, c⟩
  · cases h; rfl
  · exact c.elim
theorem Shal.non (s : Shal K Hs H v .none) : v = .non := by
  rcases s with h | ⟨p, rfl, c⟩
  · cases h; rfl
  · exact c.elim
end

/-! ### errors -/
inductive RepF (K : Fg) (H : Hp) : List (Str × V) → List (Str × D) → Prop
  | nil : RepF K H [] []
  | cons {x : Str} {v : V} {fs : List (Str × V)} {d : D} {ds : List (Str × D)} : Rep K H v d → RepF K H fs ds → RepF K H ((x, v) :: fs) ((x, d) :: ds)
def ErOk (K : Fg) (mg : MG) (e : Er) (cls : Value) (od : Option Addr) (Hs H : Hp) : Prop :=
  (∃ C, mg e.cls = some (.ref C) ∧ cls = .ref C) ∧ ((e.fs = [] ∧ od = none) ∨ (e.fs ≠ [] ∧ ∃ d fs, od = some d ∧ H d = some (.xd fs) ∧ RepF K Hs fs e.fs))

/-! ### readings over data -/
def OP {α : Type} (K : Fg) (mg : MG) (B : Bs) (W : WX) (σ : L2.St) (Hs : Hp) (P : α → En → Hp → Hp → Prop) : O α → Prop
  | .ok x ρ' => ∀ Hs' H', Sl K B Hs' H' σ ρ' → Same Hs Hs' → P x ρ' Hs' H'
  | .er e ρ' => ∀ cls od Hs' H', Sl K B Hs' H' σ ρ' → Same Hs Hs' → ErOk K mg e cls od Hs' H' → W cls od σ H'
  | .bad => False
def tD (K : Fg) (mg : MG) (B : Bs) (W : WX) (f : EF) : TE := fun σ H Q => ∃ Hs ρ, Sl K B Hs H σ ρ ∧ OP K mg B W σ Hs (fun x _ Hs' H' => ∀ v, VlOk K Hs' σ v x → Q v H') (f ρ)
def tTD (K : Fg) (mg : MG) (B : Bs) (W : WX) (f : BF) : TT := fun σ H Q => ∃ Hs ρ, Sl K B Hs H σ ρ ∧ OP K mg B W σ Hs (fun x _ _ H' => Q x H') (f ρ)
inductive VlsOk (K : Fg) (Hs : Hp) (σ : L2.St) : List V → List Vl → Prop
  | nil : VlsOk K Hs σ [] []
  | cons {v : V} {vs : List V} {x : Vl} {xs : List Vl} : VlOk K Hs σ v x → VlsOk K Hs σ vs xs → VlsOk K Hs σ (v :: vs) (x :: xs)
def tAD (K : Fg) (mg : MG) (B : Bs) (W : WX) (f : AF) : TA := fun σ H Q => ∃ Hs ρ, Sl K B Hs H σ ρ ∧ OP K mg B W σ Hs (fun xs _ Hs' H' => ∀ vs, VlsOk K Hs' σ vs xs → Q vs H') (f ρ)
/-- what no slot owns -/
def Nob (K : Fg) (B : Bs) (Hs H : Hp) (σ : L2.St) (ρ : En) (p : Addr) : Prop := ∃ F, FeetOk K B Hs H σ ρ F ∧ ∀ i, p ∉ F i
/-- a new object, nobody's yet -/
def tC' (K : Fg) (mg : MG) (B : Bs) (W : WX) (f : CF) : TE := fun σ H Q => ∃ Hs ρ, Sl K B Hs H σ ρ ∧
  OP K mg B W σ Hs (fun d ρ' Hs' H' => ∀ p, Hs' p = none → B.nw p → Nob K B Hs' H' σ ρ' p → Cont K Hs' H' p d → Q (.ref p) H') (f ρ)
abbrev PD (X : Cx) (B : Bs) (W : WX) (e : Expr) (f : EF) : Prop := PE X e (tD X.K X.mg B W f)
abbrev PB (X : Cx) (B : Bs) (W : WX) (e : Expr) (f : BF) : Prop := PT X e (tTD X.K X.mg B W f)
abbrev PAD (X : Cx) (B : Bs) (W : WX) (es : List Expr) (f : AF) : Prop := PA X es (tAD X.K X.mg B W f)
abbrev PC' (X : Cx) (B : Bs) (W : WX) (e : Expr) (f : CF) : Prop := PE X e (tC' X.K X.mg B W f)

theorem PE.imp {X : Cx} {e : Expr} {t t' : TE} (h : PE X e t) (i : ∀ σ H Q, t' σ H Q → t σ H Q) : PE X e t' := ⟨fun pins s σ H Q I q => h.run pins s σ H Q I (i σ H Q q)⟩
theorem PT.imp {X : Cx} {e : Expr} {t t' : TT} (h : PT X e t) (i : ∀ σ H Q, t' σ H Q → t σ H Q) : PT X e t' := ⟨fun pins s σ H Q I q => h.run pins s σ H Q I (i σ H Q q)⟩
theorem PW.imp {X : Cx} {e : Expr} {t t' : TT} (h : PW X e t) (i : ∀ σ H Q, t' σ H Q → t σ H Q) : PW X e t' := ⟨fun wh pins s σ H Q I q => h.run wh pins s σ H Q I (i σ H Q q)⟩
theorem PA.imp {X : Cx} {e : List Expr} {t t' : TA} (h : PA X e t) (i : ∀ σ H Q, t' σ H Q → t σ H Q) : PA X e t' := ⟨fun pos pins s σ H Q I q => h.run pos pins s σ H Q I (i σ H Q q)⟩
theorem PS.imp {X : Cx} {e : Stmt} {t t' : TS} (h : PS X e t) (i : ∀ D σ H, t' D σ H → t D σ H) : PS X e t' := ⟨fun pins s σ H D I q => h.run pins s σ H D I (i D σ H q)⟩
theorem PSs.imp {X : Cx} {e : List Stmt} {t t' : TS} (h : PSs X e t) (i : ∀ D σ H, t' D σ H → t D σ H) : PSs X e t' := ⟨fun pins s σ H D I q => h.run pins s σ H D I (i D σ H q)⟩
theorem PI.imp {X : Cx} {tg e : Expr} {t t' : TI} (h : PI X tg e t) (i : ∀ σ H R, t' σ H R → t σ H R) : PI X tg e t' := ⟨fun pins s σ H R I q => h.run pins s σ H R I (i σ H R q)⟩

section
variable {K : Fg} {mg : MG} {B : Bs} {W : WX} {σ : L2.St} {Hs Hs1 H H' : Hp} {α β : Type}
theorem OP.imp {P P' : α → En → Hp → Hp → Prop} {o : O α} (h : OP K mg B W σ Hs P o) (i : ∀ x ρ Hs' H', o = .ok x ρ → Sl K B Hs' H' σ ρ → Same Hs Hs' → P x ρ Hs' H' → P' x ρ Hs' H') : OP K mg B W σ Hs P' o := by
  cases o with
  | ok x r => exact fun Hs' H' s e => i _ _ _ _ rfl s e (h Hs' H' s e)
  | er e r => exact h
  | bad => exact h
/-- the base of the growth may be later -/
theorem OP.later {P : α → En → Hp → Hp → Prop} {o : O α} (h : OP K mg B W σ Hs P o) (e : Same Hs Hs1) : OP K mg B W σ Hs1 P o := by
  cases o with
  | ok x r => exact fun Hs' H' s g => h Hs' H' s (e.trans g)
  | er _ r => exact fun c od Hs' H' s g => h c od Hs' H' s (e.trans g)
  | bad => exact h
theorem OP.bind {P : β → En → Hp → Hp → Prop} {o : O α} {f : α → En → O β} (h : OP K mg B W σ Hs P (o.bind f)) :
    OP K mg B W σ Hs (fun x ρ Hs' _ => OP K mg B W σ Hs' P (f x ρ)) o := by
  cases o with
  | ok x r => exact fun Hs' H' s e => OP.later h e
  | er e r => exact h
  | bad => exact h
end

/-! ### combinators -/
def cst (d : D) : EF := fun ρ => .ok (.st d) ρ
/-- the i-th name: its data, or its own object -/
def vr (i : Nat) : EF := fun ρ => match ρ[i]? with
  | some (.val d) => .ok (.st d) ρ
  | some (.own _) => .ok (.at i) ρ
  | some (.arg _) => .ok (.at i) ρ
  | some (.tre _) => .ok (.at i) ρ
  | some (.atr _) => .ok (.at i) ρ
  | some (.fn a) => .ok (.fn a) ρ
  | _ => .bad
/-- .. an own object handed out for good -/
def frz (i : Nat) : EF := fun ρ => match ρ[i]? with
  | some (.val d) => .ok (.st d) ρ
  | some (.own d) => .ok (.st d) (ρ.set i (.val d))
  | _ => .bad
def opt {α : Type} (o : Option α) (ρ : En) : O α := match o with
  | some a => .ok a ρ
  | none => .bad
def op1 (g : D → Option D) (fa : EF) : EF := fun ρ => (fa ρ).bind fun x ρ1 => opt ((x.get ρ1).bind fun d => (g d).map Vl.st) ρ1
def op2 (g : D → D → Option D) (fa fb : EF) : EF := fun ρ => (fa ρ).bind fun x ρ1 => (fb ρ1).bind fun y ρ2 => opt ((x.get ρ2).bind fun d => (y.get ρ2).bind fun e => (g d e).map Vl.st) ρ2
def tst (g : D → Option Bool) (fa : EF) : BF := fun ρ => (fa ρ).bind fun x ρ1 => opt ((x.get ρ1).bind g) ρ1

section
variable {X : Cx} {B : Bs} {W : WX} {a b c e : Expr} {fa fb fc : EF} {pos : Pos}
theorem pd_c {v : V} {d : D} (h : PE X e (tC v)) (r : ∀ H, Rep X.K H v d) : PD X B W e (cst d) := PE.imp h fun σ H Q ⟨Hs, ρ, sl, q⟩ => q Hs H sl (.refl _) v (r Hs)
theorem pd_int {i j pos} : PD X B W (.Constant (.int i) j pos) (cst (.int i)) := pd_c pe_int fun _ => .int i
theorem pd_bl {i j pos} : PD X B W (.Constant (.bool i) j pos) (cst (.bool i)) := pd_c pe_bl fun _ => .bl i
theorem pd_non {j pos} : PD X B W (.Constant .none j pos) (cst .none) := pd_c pe_non fun _ => .non
theorem pd_str {i j pos} : PD X B W (.Constant (.str i) j pos) (cst (.str i)) := pd_c pe_str fun _ => .str i
/-- a constant of the module -/
theorem pd_gi {x : Str} {i : Int} {t : Tok} (hg : Gl X x) (hm : X.mg x = some (.int i t)) (hd : (x == ("__debug__" : Str)) = false := by decide) : PD X B W (.Name x pos) (cst (.int i)) := pd_c (pe_glob (v := .int i) hg hm ⟨t, rfl⟩ hd) fun _ => .int i
theorem pd_gs {x : Str} {i : Str} {t : Tok} (hg : Gl X x) (hm : X.mg x = some (.str i t)) (hd : (x == ("__debug__" : Str)) = false := by decide) : PD X B W (.Name x pos) (cst (.str i)) := pd_c (pe_glob (v := .str i) hg hm ⟨t, rfl⟩ hd) fun _ => .str i
theorem pd_gf {x : Str} {f : Addr} (hg : Gl X x) (hm : X.mg x = some (.ref f)) (hd : (x == ("__debug__" : Str)) = false := by decide) : PD X B W (.Name x pos) (fun ρ => .ok (.fn f) ρ) :=
  PE.imp (pe_glob (v := .ref f) hg hm rfl hd) fun σ H Q ⟨Hs, ρ, sl, q⟩ => q Hs H sl (.refl _) _ rfl
theorem sl_var {K : Fg} {Hs H : Hp} {σ : L2.St} {ρ : En} {i : Nat} {s : Slot} (sl : Sl K B Hs H σ ρ) (h : ρ[i]? = some s) : ∃ x, σ[i]? = some x := by
  have h1 : i < σ.length := by
    rw [sl.len]
    exact (List.getElem?_eq_some_iff.mp h).1
  exact ⟨_, List.getElem?_eq_getElem h1⟩
theorem pd_v {i : Nat} (h : PE X e (tVar i)) : PD X B W e (vr i) := PE.imp h fun σ H Q ⟨Hs, ρ, sl, q⟩ => by
  unfold vr at q
  cases es : ρ[i]? with
  | none => rw [es] at q; exact q.elim
  | some s =>
    rw [es] at q
    obtain ⟨x, ex⟩ := sl_var sl es
    have o := sl.ok i x s ex es
    cases s with
    | un => exact q.elim
    | gho n d => exact q.elim
    | tab T => exact q.elim
    | tre d =>
      obtain ⟨p, f, e1, _⟩ := o
      subst e1
      exact ⟨_, ex, q Hs H sl (.refl _) _ ex⟩
    | atr d =>
      obtain ⟨p, f, e1, _⟩ := o
      subst e1
      exact ⟨_, ex, q Hs H sl (.refl _) _ ex⟩
    | fn a =>
      cases o
      exact ⟨_, ex, q Hs H sl (.refl _) _ rfl⟩
    | val d =>
      obtain ⟨v, e1, r⟩ := o
      subst e1
      exact ⟨v, ex, q Hs H sl (.refl _) v r⟩
    | own d =>
      obtain ⟨p, e1, _⟩ := o
      subst e1
      exact ⟨_, ex, q Hs H sl (.refl _) _ ex⟩
    | arg d =>
      obtain ⟨p, e1, _⟩ := o
      subst e1
      exact ⟨_, ex, q Hs H sl (.refl _) _ ex⟩
end

/-! freezing an own object -/
section
variable {K : Fg} {B : Bs} {Hs H : Hp} {σ : L2.St} {ρ : En}
theorem Cont.frozen {p : Addr} {d : D} {o : HO} (c : Cont K Hs H p d) (e : H p = some o) (n : Hs p = none) : Rep K (upd Hs p o) (.ref p) d := by
  have s : Same Hs (upd Hs p o) := same_upd n
  cases d with
  | list ds =>
    obtain ⟨vs, a, b⟩ := c
    rw [a] at e; cases e
    exact .lst upd_same (b.mono s)
  | dict kvs =>
    rcases c with ⟨ks, a, b⟩ | ⟨ks, es, rfl, a, b⟩
    · rw [a] at e; cases e
      exact .dK (.inl upd_same) (b.mono s)
    · rw [a] at e; cases e
      exact .dT (.inl upd_same) (b.mono s)
  | _ => exact c.elim
/-- the stable heap takes an object of H that no slot owns -/
theorem Sl.take {p : Addr} {o : HO} (sl : Sl K B Hs H σ ρ) (e : H p = some o) (n : Hs p = none) (z : B.nw p)
    (hp : Nob K B Hs H σ ρ p) : Sl K B (upd Hs p o) H σ ρ := by
  have sm : Same Hs (upd Hs p o) := same_upd n
  obtain ⟨F, h, nF⟩ := hp
  have st : ∀ i, ∀ c ∈ F i, Hs c = none → upd Hs p o c = none := fun i c hc q => by rw [upd_ne (fun z => nF i (by rw [← z]; exact hc))]; exact q
  exact {
    len := sl.len
    ok := fun i x s a b => (sl.ok i x s a b).stays (h.at_ i x s a b) sm (fun _ _ _ e => e) (st i)
    sub := fun b u h => by
      by_cases hb : b = p
      · subst hb; rw [upd_same] at h; cases h; exact e
      · rw [upd_ne hb] at h; exact sl.sub _ _ h
    base := sl.base.trans (same_upd n)
    new := fun a => by
      by_cases hb : a = p
      · subst hb; exact .inr (.inr (.inl z))
      · rw [upd_ne hb]; exact sl.new a
    keep := sl.keep
    there := sl.there
    feet := ⟨F, fun i x s a b => (h.at_ i x s a b).mono sm (fun _ _ _ e => e) (st i), h.out, h.dis⟩ }
theorem FeetOk.reslot {F : Nat → List Addr} {i : Nat} {s : Slot} (h : FeetOk K B Hs H σ ρ F) (nm : s.mut = false) : FeetOk K B Hs H σ (ρ.set i s) fun j => if i = j then [] else F j := ⟨fun j x t a b => by
    by_cases e : i = j
    · subst e
      have hl := (List.getElem?_eq_some_iff.mp b).1
      rw [List.length_set] at hl
      rw [List.getElem?_set_self hl] at b
      cases b
      rw [if_pos rfl]
      cases s <;> first | (cases nm; done) | rfl
    · rw [List.getElem?_set_ne e] at b
      rw [if_neg e]
      exact h.at_ j x t a b, fun j a => by
    by_cases e : i = j
    · rw [if_pos e]
    · rw [if_neg e]
      rw [List.getElem?_set_ne e] at a
      exact h.out j a, fun j k hjk a ha hb => by
    by_cases e : i = j
    · rw [if_pos e] at ha; cases ha
    · by_cases e2 : i = k
      · rw [if_pos e2] at hb; cases hb
      · rw [if_neg e] at ha
        rw [if_neg e2] at hb
        exact h.dis j k hjk a ha hb⟩
theorem FeetOk.grow {F : Nat → List Addr} {Hs' H' : Hp} (h : FeetOk K B Hs H σ ρ F) (sl : Sl K B Hs H σ ρ) (g : Grow Hs H Hs' H') : FeetOk K B Hs' H' σ ρ F := by
  refine ⟨fun i x s a b => ?_, h.out, h.dis⟩
  have th := (h.at_ i x s a b).there (sl.ok i x s a b)
  exact (h.at_ i x s a b).mono g.s (fun c _ o e => g.h _ _ e) fun c hc n => by
    rcases g.new c with q | q | q
    · exact q
    · exact absurd n q
    · exact ((th c hc).1.nofree q).elim
theorem Nob.grow {p : Addr} {Hs' H' : Hp} (n : Nob K B Hs H σ ρ p) (sl : Sl K B Hs H σ ρ) (g : Grow Hs H Hs' H') : Nob K B Hs' H' σ ρ p := by
  obtain ⟨F, h, q⟩ := n
  exact ⟨F, h.grow sl g, q⟩
theorem Nob.reslot {p : Addr} {i : Nat} {s : Slot} (n : Nob K B Hs H σ ρ p) (nm : s.mut = false) : Nob K B Hs H σ (ρ.set i s) p := by
  obtain ⟨F, h, q⟩ := n
  exact ⟨_, h.reslot nm, fun j m => by
    by_cases e : i = j
    · rw [if_pos e] at m; cases m
    · rw [if_neg e] at m; exact q j m⟩
/-- what a slot owned is nobody's once the slot is forgotten -/
theorem Sl.nob_un {i : Nat} {s t : Slot} {p : Addr} (sl : Sl K B Hs H σ ρ) (h : ρ[i]? = some s) (m : s.nmd = true) (hp : σ[i]? = some (some (.ref p))) (nm : t.mut = false) : Nob K B Hs H σ (ρ.set i t) p := by
  obtain ⟨F, f⟩ := sl.feet
  obtain ⟨p', e1, e2⟩ := (f.at_ i _ s hp h).root m
  cases e1
  refine ⟨_, f.reslot nm, fun j q => ?_⟩
  by_cases e : i = j
  · rw [if_pos e] at q; cases q
  · rw [if_neg e] at q
    exact f.dis i j e p e2 q
/-- a slot forgotten, or told of anew -/
theorem Sl.reslot {i : Nat} {s : Slot} (sl : Sl K B Hs H σ ρ) (hi : ∀ x, σ[i]? = some x → SlotOk K B Hs H x s) (nm : s.mut = false) : Sl K B Hs H σ (ρ.set i s) where
  len := by rw [List.length_set]; exact sl.len
  ok := fun j x t a b => by
    by_cases h : i = j
    · subst h
      have hl := (List.getElem?_eq_some_iff.mp b).1
      rw [List.length_set] at hl
      rw [List.getElem?_set_self hl] at b
      cases b
      exact hi x a
    · rw [List.getElem?_set_ne h] at b
      exact sl.ok j x t a b
  sub := sl.sub
  base := sl.base
  new := sl.new
  keep := sl.keep
  there := sl.there
  feet := by
    obtain ⟨F, h⟩ := sl.feet
    exact ⟨_, h.reslot nm⟩
theorem Sl.freeze {i : Nat} {d : D} {p : Addr} (sl : Sl K B Hs H σ ρ) (h : ρ[i]? = some (.own d)) (hp : σ[i]? = some (some (.ref p))) :
    ∃ Hs', Same Hs Hs' ∧ Sl K B Hs' H σ (ρ.set i (.val d)) ∧ Rep K Hs' (.ref p) d := by
  obtain ⟨p', e1, n, z, c⟩ := sl.ok i _ _ hp h
  cases e1
  obtain ⟨o, eo⟩ := c.there
  have r := c.frozen eo n
  have s1 : Sl K B Hs H σ (ρ.set i .un) := sl.reslot (fun _ _ => trivial) rfl
  have hi : i < ρ.length := (List.getElem?_eq_some_iff.mp h).1
  have s2 := s1.take eo n z (sl.nob_un h rfl hp rfl)
  have s3 := s2.reslot (i := i) (s := .val d) (fun x hx => by
    rw [hp] at hx; cases hx
    exact ⟨_, rfl, r⟩) rfl
  rw [List.set_set] at s3
  exact ⟨_, same_upd n, s3, r⟩
end
section
variable {X : Cx} {B : Bs} {W : WX} {a b c e : Expr} {fa fb fc : EF} {pos : Pos}
theorem pd_f {i : Nat} (h : PE X e (tVar i)) : PD X B W e (frz i) := PE.imp h fun σ H Q ⟨Hs, ρ, sl, q⟩ => by
  unfold frz at q
  cases es : ρ[i]? with
  | none => rw [es] at q; exact q.elim
  | some s =>
    rw [es] at q
    obtain ⟨x, ex⟩ := sl_var sl es
    have o := sl.ok i x s ex es
    cases s with
    | un => exact q.elim
    | fn a => exact q.elim
    | arg d => exact q.elim
    | tre d => exact q.elim
    | atr d => exact q.elim
    | gho n d => exact q.elim
    | tab T => exact q.elim
    | val d =>
      obtain ⟨v, e1, r⟩ := o
      subst e1
      exact ⟨v, ex, q Hs H sl (.refl _) v r⟩
    | own d =>
      obtain ⟨p, e1, _⟩ := o
      subst e1
      obtain ⟨Hs', sm, sl', r⟩ := sl.freeze es ex
      exact ⟨_, ex, q Hs' H sl' sm _ r⟩
end
end DL

/-! DL3 -/
namespace DL
open PySem PySem.Spec PyProof.Rows L2

/-! ### operations on data -/
def rX (K : Fg) (g : D → D → Option D) : R2 := fun x y H Q => ∃ Hs d e z, Same Hs H ∧ Shal K Hs H x d ∧ Shal K Hs H y e ∧ g d e = some z ∧ ∀ v Hs' H', Grow Hs H Hs' H' → Rep K Hs' v z → Q v H'
abbrev OpX (X : Cx) (f : Value → Value → Sem Value) (g : D → D → Option D) : Prop := OpR X f (rX X.K g)
/-- .. whose answer is a new object -/
def rXn (K : Fg) (g : D → D → Option D) : R2 := fun x y H Q => ∃ Hs d e z, Same Hs H ∧ Shal K Hs H x d ∧ Shal K Hs H y e ∧ g d e = some z ∧ ∀ p H', H p = none → Grow Hs H Hs H' → Cont K Hs H' p z → Q (.ref p) H'
abbrev OpN (X : Cx) (f : Value → Value → Sem Value) (g : D → D → Option D) : Prop := OpR X f (rXn X.K g)
section
variable {K : Fg} {mg : MG} {B : Bs} {W : WX} {fa fb : EF} {g : D → D → Option D} {σ : L2.St} {H : Hp} {Q : VK}
theorem op2_read (h : tD K mg B W (op2 g fa fb) σ H Q) : tOp (rX K g) (tD K mg B W fa) (tD K mg B W fb) σ H Q := by
  obtain ⟨Hs, ρ, sl, q⟩ := h
  refine ⟨Hs, ρ, sl, OP.imp (OP.bind q) fun x ρ1 Hs1 H1 _ sl1 e1 q1 v hv => ?_⟩
  refine ⟨Hs1, ρ1, sl1, OP.imp (OP.bind q1) fun y ρ2 Hs2 H2 _ sl2 e2 q2 u hu => ?_⟩
  cases ex : x.get ρ2 with
  | none => rw [ex] at q2; exact q2.elim
  | some d =>
    cases ey : y.get ρ2 with
    | none => rw [ex, ey] at q2; exact q2.elim
    | some e =>
      cases ez : g d e with
      | none => rw [ex, ey, Option.bind_some, Option.bind_some, ez] at q2; exact q2.elim
      | some z =>
        rw [ex, ey, Option.bind_some, Option.bind_some, ez] at q2
        have hv2 : VlOk K Hs2 σ v x := by
          cases x with
          | st d => exact Rep.mono e2 hv
          | «at» i => exact hv
          | fn a => exact hv
        refine ⟨Hs2, d, e, z, sl2.sub, sl2.look hv2 ex, sl2.look hu ey, ez, fun w Hs' H' gr r => ?_⟩
        exact q2 Hs' H' (sl2.grow gr) gr.s w r
end
section
variable {X : Cx} {B : Bs} {W : WX} {a b c e : Expr} {fa fb fc : EF} {pos : Pos} {g : D → D → Option D}
theorem pd_bin {op : Operator} (ho : OpX X (binaryOp op) g) (ha : PD X B W a fa) (hb : PD X B W b fb) : PD X B W (.BinOp a op b pos) (op2 g fa fb) :=
  PE.imp (pe_op ho ha hb) fun _ _ _ h => op2_read h
theorem pd_cmp {op : CmpOp} (ho : OpX X (compareOp op) g) (ha : PD X B W a fa) (hb : PD X B W b fb) (hm : behindInMarks op b = false) : PD X B W (.Compare a [op] [b] pos) (op2 g fa fb) :=
  PE.imp (pe_cmpR ho ha hb hm) fun _ _ _ h => op2_read h
theorem pd_ix (hr : IxR X (rX X.K g)) (ha : PD X B W a fa) (hb : PD X B W b fb) (hs : PlainIx b) : PD X B W (.Subscript a b pos) (op2 g fa fb) :=
  PE.imp (pe_ix hr ha hb hs) fun _ _ _ h => op2_read h
end

/-! ints -/
def addI : D → D → Option D
  | .int i, .int j => some (.int (i + j))
  | _, _ => none
def subD : D → D → Option D
  | .int i, .int j => some (.int (i - j))
  | _, _ => none
/-- the sizes that a product may have -/
def mulOk (i j : Int) : Bool := decide (i.natAbs < 18446744073709551616) || decide (j.natAbs < 18446744073709551616)
def mulI : D → D → Option D
  | .int i, .int j => if mulOk i j = true then some (.int (i * j)) else none
  | _, _ => none
def divOk (j : Int) : Bool := decide (0 < j) && decide (j.natAbs.log2 < 9000)
def divD : D → D → Option D
  | .int i, .int j => if divOk j = true then some (.int (i / j)) else none
  | _, _ => none
def modD : D → D → Option D
  | .int i, .int j => if 0 < j then some (.int (i % j)) else none
  | _, _ => none
def powOk (i j : Int) : Bool := decide (0 ≤ j) && decide (j ≤ 1000000) && decide (i.natAbs < 18446744073709551616)
def powD : D → D → Option D
  | .int i, .int j => if powOk i j = true then some (.int (i ^ j.toNat)) else none
  | _, _ => none
def cmpI (p : Int → Int → Bool) : D → D → Option D
  | .int i, .int j => some (.bool (p i j))
  | _, _ => none
section
variable {X : Cx} {f : Value → Value → Sem Value}
theorem OpX.int {C : Int → Int → Prop} {h : Int → Int → Int} {g : D → D → Option D} (ho : OpR X f (rI C fun i j => .int (h i j)))
    (hg : ∀ d e z, g d e = some z → ∃ i j, d = .int i ∧ e = .int j ∧ C i j ∧ z = .int (h i j)) : OpX X f g := fun pins s σ H x y v u Q I rx ry q => by
  obtain ⟨Hs, d, e, z, sb, sx, sy, ez, q⟩ := q
  obtain ⟨i, j, rfl, rfl, c, rfl⟩ := hg _ _ _ ez
  exact ho pins s σ H x y v u Q I rx ry ⟨i, j, sx.int, sy.int, c, q _ Hs H (.refl sb) (.int _)⟩
theorem OpX.bl {h : Int → Int → Bool} (ho : OpR X f (rI0 fun i j => .bl (h i j))) : OpX X f (cmpI h) := fun pins s σ H x y v u Q I rx ry q => by
  obtain ⟨Hs, d, e, z, sb, sx, sy, ez, q⟩ := q
  cases d <;> cases e <;> cases ez
  exact ho pins s σ H x y v u Q I rx ry ⟨_, _, sx.int, sy.int, q _ Hs H (.refl sb) (.bl _)⟩
theorem ox_sub : OpX X (binaryOp .Sub) subD := OpX.int (C := fun _ _ => True) (h := fun i j => i - j) (fun pins s σ H x y v u Q I rx ry ⟨i, j, a, b, _, q⟩ => op_sub pins s σ H x y v u Q I rx ry ⟨i, j, a, b, q⟩) fun d e z h => by
  cases d <;> cases e <;> cases h
  exact ⟨_, _, rfl, rfl, trivial, rfl⟩
theorem ox_addI : OpX X (binaryOp .Add) addI := OpX.int (C := fun _ _ => True) (h := fun i j => i + j) (fun pins s σ H x y v u Q I rx ry ⟨i, j, a, b, _, q⟩ => op_add pins s σ H x y v u Q I rx ry ⟨i, j, a, b, q⟩) fun d e z h => by
  cases d <;> cases e <;> cases h
  exact ⟨_, _, rfl, rfl, trivial, rfl⟩
theorem mul_ok {i j : Int} (h : mulOk i j = true) : CMul i j := by
  unfold mulOk at h
  rcases Bool.or_eq_true_iff.mp h with h | h
  · have := of_decide_eq_true h
    exact .inl (by omega)
  · have := of_decide_eq_true h
    exact .inr (by omega)
theorem ox_mulI : OpX X (binaryOp .Mult) mulI := OpX.int op_mul fun d e z h => by
  cases d <;> cases e <;> first | cases h | skip
  rename_i i j
  unfold mulI at h
  dsimp only at h
  by_cases c : mulOk i j = true
  · rw [if_pos c] at h; cases h
    exact ⟨_, _, rfl, rfl, mul_ok c, rfl⟩
  · rw [if_neg c] at h; cases h
theorem ox_div : OpX X (binaryOp .FloorDiv) divD := OpX.int op_fdivW fun d e z h => by
  cases d <;> cases e <;> first | cases h | skip
  rename_i i j
  unfold divD at h
  dsimp only at h
  by_cases c : divOk j = true
  · rw [if_pos c] at h; cases h
    unfold divOk at c
    obtain ⟨c1, c2⟩ := Bool.and_eq_true_iff.mp c
    exact ⟨_, _, rfl, rfl, ⟨of_decide_eq_true c1, of_decide_eq_true c2⟩, rfl⟩
  · rw [if_neg c] at h; cases h
theorem ox_mod : OpX X (binaryOp .Mod) modD := OpX.int op_mod fun d e z h => by
  cases d <;> cases e <;> first | cases h | skip
  rename_i i j
  unfold modD at h
  dsimp only at h
  by_cases c : 0 < j
  · rw [if_pos c] at h; cases h
    exact ⟨_, _, rfl, rfl, c, rfl⟩
  · rw [if_neg c] at h; cases h
theorem ox_pow : OpX X (binaryOp .Pow) powD := OpX.int op_pow fun d e z h => by
  cases d <;> cases e <;> first | cases h | skip
  rename_i i j
  unfold powD at h
  dsimp only at h
  by_cases c : powOk i j = true
  · rw [if_pos c] at h; cases h
    unfold powOk at c
    obtain ⟨c, c3⟩ := Bool.and_eq_true_iff.mp c
    obtain ⟨c1, c2⟩ := Bool.and_eq_true_iff.mp c
    have := of_decide_eq_true c3
    exact ⟨_, _, rfl, rfl, ⟨of_decide_eq_true c1, of_decide_eq_true c2, by omega⟩, rfl⟩
  · rw [if_neg c] at h; cases h
abbrev ltD := cmpI fun i j => decide (i < j)
abbrev leD := cmpI fun i j => decide (i ≤ j)
abbrev gtD := cmpI fun i j => decide (j < i)
abbrev geD := cmpI fun i j => decide (j ≤ i)
theorem ox_lt : OpX X (compareOp .Lt) ltD := OpX.bl op_lt
theorem ox_le : OpX X (compareOp .LtE) leD := OpX.bl op_le
theorem ox_gt : OpX X (compareOp .Gt) gtD := OpX.bl op_gt
theorem ox_ge : OpX X (compareOp .GtE) geD := OpX.bl op_ge
end

/-! == and is -/
def eqOk (d e : D) : Bool := plain d && plain e && SeqAt.shaped d && SeqAt.shaped e
def eqD (d e : D) : Option D := if eqOk d e = true then some (.bool (PyData.eqv d e)) else none
def neD (d e : D) : Option D := if eqOk d e = true then some (.bool (!PyData.eqv d e)) else none
def isNone : D → Bool
  | .none => true
  | _ => false
def isD : D → D → Option D
  | d, .none => some (.bool (isNone d))
  | _, _ => none
def isntD : D → D → Option D
  | d, .none => some (.bool (!isNone d))
  | _, _ => none
section
variable {X : Cx}
theorem eq_ok {d e : D} (h : eqOk d e = true) : plain d = true ∧ plain e = true ∧ SeqAt.shaped d = true ∧ SeqAt.shaped e = true := by
  unfold eqOk at h
  simp only [Bool.and_eq_true] at h
  exact ⟨h.1.1.1, h.1.1.2, h.1.2, h.2⟩
theorem ox_eq (hu : X.A.units + 64 < cLine) : OpX X (compareOp .Eq) eqD := fun pins s σ H x y v u Q I rx ry q => by
  obtain ⟨Hs, d, e, z, sb, sx, sy, ez, q⟩ := q
  unfold eqD at ez
  by_cases c : eqOk d e = true
  · rw [if_pos c] at ez; cases ez
    obtain ⟨p1, p2, s1, s2⟩ := eq_ok c
    exact op_eqD hu pins s σ H x y v u Q I rx ry ⟨d, e, (sx.rep sb).dp p1, (sy.rep sb).dp p2, s1, s2, q _ Hs H (.refl sb) (.bl _)⟩
  · rw [if_neg c] at ez; cases ez
theorem ox_ne (hu : X.A.units + 64 < cLine) : OpX X (compareOp .NotEq) neD := fun pins s σ H x y v u Q I rx ry q => by
  obtain ⟨Hs, d, e, z, sb, sx, sy, ez, q⟩ := q
  unfold neD at ez
  by_cases c : eqOk d e = true
  · rw [if_pos c] at ez; cases ez
    obtain ⟨p1, p2, s1, s2⟩ := eq_ok c
    exact op_neD hu pins s σ H x y v u Q I rx ry ⟨d, e, (sx.rep sb).dp p1, (sy.rep sb).dp p2, s1, s2, q _ Hs H (.refl sb) (.bl _)⟩
  · rw [if_neg c] at ez; cases ez
theorem Shal.isN {K : Fg} {Hs H : Hp} {x : V} {d : D} (s : Shal K Hs H x d) : decide (x = .non) = isNone d := by
  rcases s with h | ⟨p, rfl, c⟩
  · cases h <;> rfl
  · cases d with
    | none => exact c.elim
    | _ => rfl
theorem ox_is : OpX X (compareOp .Is) isD := fun pins s σ H x y v u Q I rx ry q => by
  obtain ⟨Hs, d, e, z, sb, sx, sy, ez, q⟩ := q
  cases e <;> cases ez
  exact op_isN pins s σ H x y v u Q I rx ry ⟨sy.non, q _ Hs H (.refl sb) (by rw [sx.isN]; exact .bl _)⟩
theorem ox_isnt : OpX X (compareOp .IsNot) isntD := fun pins s σ H x y v u Q I rx ry q => by
  obtain ⟨Hs, d, e, z, sb, sx, sy, ez, q⟩ := q
  cases e <;> cases ez
  exact op_notN pins s σ H x y v u Q I rx ry ⟨sy.non, q _ Hs H (.refl sb) (by rw [sx.isN]; exact .bl _)⟩
end

/-! subscripts of lists, tuples, texts -/
def ixD : D → D → Option D
  | .list ds, .int i => atI ds i
  | .tuple ds, .int i => atI ds i
  | .str z, .int i => if z.length ≤ sizeLine then (atI z.cps.toList i).map fun c => .str ⟨#[c]⟩ else none
  | _, _ => none
theorem RepA.atI {K : Fg} {H : Hp} {vs : List V} {ds : List D} {i : Int} {d : D} (r : RepA K H vs ds) (h : L2.atI ds i = some d) : ∃ v, L2.atI vs i = some v ∧ Rep K H v d := by
  unfold L2.atI at h ⊢
  rw [r.length]
  cases e : ixN ds.length i with
  | none => rw [e] at h; cases h
  | some j =>
    rw [e] at h
    exact r.get (by simpa using h)
section
variable {X : Cx}
theorem ix_data : IxR X (rX X.K ixD) := fun value slice pins s σ H x y v u Q I rx ry q hs => by
  obtain ⟨Hs, d, e, z, sb, sx, sy, ez, q⟩ := q
  cases e <;> first | (cases d <;> cases ez; done) | skip
  rename_i i
  have ey := sy.int
  cases d <;> first | (cases ez; done) | skip
  · rename_i w
    unfold ixD at ez
    dsimp only at ez
    by_cases c : w.length ≤ sizeLine
    · rw [if_pos c] at ez
      cases ea : L2.atI w.cps.toList i with
      | none => rw [ea] at ez; cases ez
      | some cc =>
        rw [ea] at ez; cases ez
        exact ix_str value slice pins s σ H x y v u Q I rx ry ⟨w, i, cc, sx.str, ey, c, ea, q _ Hs H (.refl sb) (.str _)⟩ hs
    · rw [if_neg c] at ez; cases ez
  · obtain ⟨p, vs, e1, h1, r⟩ := sx.lst sb
    obtain ⟨w, h2, r2⟩ := r.atI ez
    exact ix_list value slice pins s σ H x y v u Q I rx ry ⟨p, vs, i, w, e1, ey, .inl (.inl h1), h2, q _ Hs H (.refl sb) r2⟩ hs
  · obtain ⟨p, vs, e1, h1, r⟩ := sx.tup sb
    obtain ⟨w, h2, r2⟩ := r.atI ez
    exact ix_tup value slice pins s σ H x y v u Q I rx ry ⟨p, vs, i, w, e1, ey, h1, h2, q _ Hs H (.refl sb) r2⟩ hs
end
end DL

/-! DL4 -/
namespace DL
open PySem PySem.Spec PyProof.Rows L2

/-! ### unary, and, or, not, tests -/
def rX1 (K : Fg) (g : D → Option D) : V → Hp → VK → Prop := fun x H Q => ∃ Hs d z, Same Hs H ∧ Shal K Hs H x d ∧ g d = some z ∧ ∀ v Hs' H', Grow Hs H Hs' H' → Rep K Hs' v z → Q v H'
def negD : D → Option D
  | .int i => some (.int (-i))
  | _ => none
def andF (fa fb : EF) : EF := fun ρ => (fa ρ).bind fun x ρ1 => match x.get ρ1 with
  | some (.bool c) => if c = true then fb ρ1 else .ok (.st (.bool false)) ρ1
  | _ => .bad
def orF (fa fb : EF) : EF := fun ρ => (fa ρ).bind fun x ρ1 => match x.get ρ1 with
  | some (.bool c) => if c = true then .ok (.st (.bool true)) ρ1 else fb ρ1
  | _ => .bad
def notD : D → Option D
  | .bool c => some (.bool (!c))
  | _ => none
def ifF (c : BF) (fa fb : EF) : EF := fun ρ => (c ρ).bind fun b ρ1 => if b = true then fa ρ1 else fb ρ1
def boolOf : D → Option Bool
  | .bool b => some b
  | _ => none
abbrev bF (f : EF) : BF := tst boolOf f
def andB (f g : BF) : BF := fun ρ => (f ρ).bind fun b ρ1 => if b = true then g ρ1 else .ok false ρ1
def orB (f g : BF) : BF := fun ρ => (f ρ).bind fun b ρ1 => if b = true then .ok true ρ1 else g ρ1
def notB (f : BF) : BF := fun ρ => (f ρ).bind fun b ρ1 => .ok (!b) ρ1
def chF (g g' : D → D → Option D) (fa fb fc : EF) : EF := fun ρ => (fa ρ).bind fun x ρ1 => (fb ρ1).bind fun y ρ2 =>
  match (x.get ρ2).bind fun d => (y.get ρ2).bind fun e => g d e with
  | some (.bool k) => if k = true then (fc ρ2).bind fun z ρ3 => opt ((y.get ρ3).bind fun d => (z.get ρ3).bind fun e => (g' d e).map Vl.st) ρ3 else .ok (.st (.bool false)) ρ2
  | _ => .bad

section
variable {K : Fg} {mg : MG} {B : Bs} {W : WX} {fa fb fc : EF} {g g' : D → D → Option D} {g1 : D → Option D} {σ : L2.St} {H : Hp} {Q : VK}
theorem VlOk.mono {Hs Hs' : Hp} {v : V} {x : Vl} (h : VlOk K Hs σ v x) (e : Same Hs Hs') : VlOk K Hs' σ v x := by
  cases x with
  | st d => exact Rep.mono e h
  | «at» i => exact h
  | fn a => exact h
theorem Shal.get_eq {x : V} {Hs : Hp} {d : D} : Shal K Hs H x d → True := fun _ => trivial
theorem op1_read (h : tD K mg B W (op1 g1 fa) σ H Q) : tUn (rX1 K g1) (tD K mg B W fa) σ H Q := by
  obtain ⟨Hs, ρ, sl, q⟩ := h
  refine ⟨Hs, ρ, sl, OP.imp (OP.bind q) fun x ρ1 Hs1 H1 _ sl1 e1 q1 v hv => ?_⟩
  cases ex : x.get ρ1 with
  | none => rw [ex] at q1; exact q1.elim
  | some d =>
    cases ez : g1 d with
    | none => rw [ex, Option.bind_some, ez] at q1; exact q1.elim
    | some z =>
      rw [ex, Option.bind_some, ez] at q1
      exact ⟨Hs1, d, z, sl1.sub, sl1.look hv ex, ez, fun w Hs' H' gr r => q1 Hs' H' (sl1.grow gr) gr.s w r⟩
/-- a value that is a bool, read as a bool -/
theorem bF_read {Q : Bool → Hp → Prop} (h : tTD K mg B W (bF fa) σ H Q) : tD K mg B W fa σ H (fun x H' => ∃ k, x = .bl k ∧ Q k H') := by
  obtain ⟨Hs, ρ, sl, q⟩ := h
  refine ⟨Hs, ρ, sl, OP.imp (OP.bind q) fun x ρ1 Hs1 H1 _ sl1 e1 q1 v hv => ?_⟩
  cases ex : x.get ρ1 with
  | none => rw [ex] at q1; exact q1.elim
  | some d =>
    rw [ex, Option.bind_some] at q1
    cases d <;> first | exact q1.elim | skip
    exact ⟨_, (sl1.look hv ex).bl, q1 Hs1 H1 sl1 (.refl _)⟩
theorem andF_read (h : tD K mg B W (andF fa fb) σ H Q) : tAndV (tD K mg B W fa) (tD K mg B W fb) σ H Q := by
  obtain ⟨Hs, ρ, sl, q⟩ := h
  refine ⟨Hs, ρ, sl, OP.imp (OP.bind q) fun x ρ1 Hs1 H1 _ sl1 e1 q1 v hv => ?_⟩
  cases ex : x.get ρ1 with
  | none => rw [ex] at q1; exact q1.elim
  | some d =>
    rw [ex] at q1
    cases d <;> first | exact q1.elim | skip
    rename_i c
    refine ⟨c, (sl1.look hv ex).bl, ?_⟩
    cases c with
    | true => exact ⟨Hs1, ρ1, sl1, q1⟩
    | false => exact q1 Hs1 H1 sl1 (.refl _) _ (.bl _)
theorem orF_read (h : tD K mg B W (orF fa fb) σ H Q) : tOrV (tD K mg B W fa) (tD K mg B W fb) σ H Q := by
  obtain ⟨Hs, ρ, sl, q⟩ := h
  refine ⟨Hs, ρ, sl, OP.imp (OP.bind q) fun x ρ1 Hs1 H1 _ sl1 e1 q1 v hv => ?_⟩
  cases ex : x.get ρ1 with
  | none => rw [ex] at q1; exact q1.elim
  | some d =>
    rw [ex] at q1
    cases d <;> first | exact q1.elim | skip
    rename_i c
    refine ⟨c, (sl1.look hv ex).bl, ?_⟩
    cases c with
    | true => exact q1 Hs1 H1 sl1 (.refl _) _ (.bl _)
    | false => exact ⟨Hs1, ρ1, sl1, q1⟩
theorem notF_read (h : tD K mg B W (op1 notD fa) σ H Q) : tNotV (tD K mg B W fa) σ H Q := by
  obtain ⟨Hs, ρ, sl, q⟩ := h
  refine ⟨Hs, ρ, sl, OP.imp (OP.bind q) fun x ρ1 Hs1 H1 _ sl1 e1 q1 v hv => ?_⟩
  cases ex : x.get ρ1 with
  | none => rw [ex] at q1; exact q1.elim
  | some d =>
    rw [ex, Option.bind_some] at q1
    cases d <;> first | exact q1.elim | skip
    exact ⟨_, (sl1.look hv ex).bl, q1 Hs1 H1 sl1 (.refl _) _ (.bl _)⟩
theorem ifF_read {c : BF} (h : tD K mg B W (ifF c fa fb) σ H Q) : tIf (tTD K mg B W c) (tD K mg B W fa) (tD K mg B W fb) σ H Q := by
  obtain ⟨Hs, ρ, sl, q⟩ := h
  refine ⟨Hs, ρ, sl, OP.imp (OP.bind q) fun b ρ1 Hs1 H1 _ sl1 e1 q1 => ?_⟩
  cases b with
  | true => exact ⟨Hs1, ρ1, sl1, q1⟩
  | false => exact ⟨Hs1, ρ1, sl1, q1⟩
theorem andB_read {f f' : BF} {Q : Bool → Hp → Prop} (h : tTD K mg B W (andB f f') σ H Q) : tAnd (tTD K mg B W f) (tTD K mg B W f') σ H Q := by
  obtain ⟨Hs, ρ, sl, q⟩ := h
  refine ⟨Hs, ρ, sl, OP.imp (OP.bind q) fun b ρ1 Hs1 H1 _ sl1 e1 q1 => ?_⟩
  cases b with
  | true => exact ⟨Hs1, ρ1, sl1, q1⟩
  | false => exact q1 Hs1 H1 sl1 (.refl _)
theorem orB_read {f f' : BF} {Q : Bool → Hp → Prop} (h : tTD K mg B W (orB f f') σ H Q) : tOr (tTD K mg B W f) (tTD K mg B W f') σ H Q := by
  obtain ⟨Hs, ρ, sl, q⟩ := h
  refine ⟨Hs, ρ, sl, OP.imp (OP.bind q) fun b ρ1 Hs1 H1 _ sl1 e1 q1 => ?_⟩
  cases b with
  | true => exact q1 Hs1 H1 sl1 (.refl _)
  | false => exact ⟨Hs1, ρ1, sl1, q1⟩
theorem notB_read {f : BF} {Q : Bool → Hp → Prop} (h : tTD K mg B W (notB f) σ H Q) : tNot (tTD K mg B W f) σ H Q := by
  obtain ⟨Hs, ρ, sl, q⟩ := h
  exact ⟨Hs, ρ, sl, OP.imp (OP.bind q) fun b ρ1 Hs1 H1 _ sl1 e1 q1 => q1 Hs1 H1 sl1 (.refl _)⟩
theorem chF_read (h : tD K mg B W (chF g g' fa fb fc) σ H Q) : tChain (rX K g) (rX K g') (tD K mg B W fa) (tD K mg B W fb) (tD K mg B W fc) σ H Q := by
  obtain ⟨Hs, ρ, sl, q⟩ := h
  refine ⟨Hs, ρ, sl, OP.imp (OP.bind q) fun x ρ1 Hs1 H1 _ sl1 e1 q1 v hv => ?_⟩
  refine ⟨Hs1, ρ1, sl1, OP.imp (OP.bind q1) fun y ρ2 Hs2 H2 _ sl2 e2 q2 u hu => ?_⟩
  cases ex : x.get ρ2 with
  | none => rw [ex] at q2; exact q2.elim
  | some d =>
    cases ey : y.get ρ2 with
    | none => rw [ex, ey] at q2; exact q2.elim
    | some e =>
      rw [ex, ey, Option.bind_some, Option.bind_some] at q2
      cases ez : g d e with
      | none => rw [ez] at q2; exact q2.elim
      | some z =>
        rw [ez] at q2
        cases z <;> first | exact q2.elim | skip
        rename_i k
        refine ⟨Hs2, d, e, _, sl2.sub, sl2.look (hv.mono e2) ex, sl2.look hu ey, ez, fun w Hs' H' gr r => ?_⟩
        cases r
        refine ⟨k, rfl, ?_⟩
        have sl3 := sl2.grow gr
        cases k with
        | false => exact q2 Hs' H' sl3 gr.s _ (.bl _)
        | true =>
          refine ⟨Hs', ρ2, sl3, OP.later (OP.imp (OP.bind q2) fun z ρ4 Hs4 H4 _ sl4 e4 q4 t ht => ?_) gr.s⟩
          cases ey4 : y.get ρ4 with
          | none => rw [ey4] at q4; exact q4.elim
          | some d4 =>
            cases ez4 : z.get ρ4 with
            | none => rw [ey4, ez4] at q4; exact q4.elim
            | some d5 =>
              cases eg : g' d4 d5 with
              | none => rw [ey4, ez4, Option.bind_some, Option.bind_some, eg] at q4; exact q4.elim
              | some d6 =>
                rw [ey4, ez4, Option.bind_some, Option.bind_some, eg] at q4
                exact ⟨Hs4, d4, d5, d6, sl4.sub, sl4.look (hu.mono e4) ey4, sl4.look ht ez4, eg, fun w Hs5 H5 gr5 r5 => q4 Hs5 H5 (sl4.grow gr5) gr5.s w r5⟩
end
end DL

/-! DL5 -/
namespace DL
open PySem PySem.Spec PyProof.Rows L2

/-! ### the rules of expressions -/
section
variable {X : Cx} {B : Bs} {W : WX} {a b c e : Expr} {fa fb fc : EF} {pos : Pos} {g g' : D → D → Option D} {rest : List Expr} {fB gB : BF}
theorem pd_neg (ha : PD X B W a fa) : PD X B W (.UnaryOp .USub a pos) (op1 negD fa) :=
  PE.imp (pe_un (r := rX1 X.K negD) (fun pins s σ H x v Q I rx ⟨Hs, d, z, sb, sx, ez, q⟩ => by
    cases d <;> cases ez
    exact un_neg pins s σ H x v Q I rx ⟨_, sx.int, q _ Hs H (.refl sb) (.int _)⟩) ha) fun _ _ _ h => op1_read h
theorem pd_one {op} (h : PD X B W a fa) : PD X B W (.BoolOp op [a] pos) fa := pe_one h
theorem pd_and (ha : PD X B W a fa) (hb : PD X B W (.BoolOp .And (b :: rest) pos) fb) : PD X B W (.BoolOp .And (a :: b :: rest) pos) (andF fa fb) := PE.imp (pe_and ha hb) fun _ _ _ h => andF_read h
theorem pd_or (ha : PD X B W a fa) (hb : PD X B W (.BoolOp .Or (b :: rest) pos) fb) : PD X B W (.BoolOp .Or (a :: b :: rest) pos) (orF fa fb) := PE.imp (pe_or ha hb) fun _ _ _ h => orF_read h
theorem pd_not (ha : PD X B W a fa) : PD X B W (.UnaryOp .Not a pos) (op1 notD fa) := PE.imp (pe_not ha) fun _ _ _ h => notF_read h
theorem pd_if (hc : PB X B W c fB) (ha : PD X B W a fa) (hb : PD X B W b fb) : PD X B W (.IfExp c a b pos) (ifF fB fa fb) := PE.imp (pe_ifExp hc ha hb) fun _ _ _ h => ifF_read h
theorem pd_ch {op op' : CmpOp} (ho : OpX X (compareOp op) g) (ho' : OpX X (compareOp op') g') (ha : PD X B W a fa) (hb : PD X B W b fb) (hc : PD X B W c fc)
    (hm : lastMarks [op, op'] [b, c] = false := by with_unfolding_all rfl) : PD X B W (.Compare a [op, op'] [b, c] pos) (chF g g' fa fb fc) := PE.imp (pe_chain ho ho' ha hb hc hm) fun _ _ _ h => chF_read h
/-! tests -/
abbrev PWD (X : Cx) (B : Bs) (W : WX) (e : Expr) (f : BF) : Prop := PW X e (tTD X.K X.mg B W f)
theorem pb_v (ha : PD X B W a fa) (he : ∀ whole, isTrue a X.env whole = (do let v ← whole; standAt a.pos; holding [v] (truthy v)) := by intro _; rfl) : PB X B W a (bF fa) :=
  PT.imp (pt_val ha he) fun _ _ _ h => bF_read h
theorem pb_cmp {op : CmpOp} (ho : OpX X (compareOp op) g) (ha : PD X B W a fa) (hb : PD X B W b fb) (hm : behindInMarks op b = false) : PB X B W (.Compare a [op] [b] pos) (bF (op2 g fa fb)) :=
  PT.imp (pt_cmpR ho ha hb hm) fun _ _ _ h => op2_read (bF_read h)
theorem pb_ch {op op' : CmpOp} (ho : OpX X (compareOp op) g) (ho' : OpX X (compareOp op') g') (ha : PD X B W a fa) (hb : PD X B W b fb) (hc : PD X B W c fc)
    (hm : lastMarks [op, op'] [b, c] = false := by with_unfolding_all rfl) : PB X B W (.Compare a [op, op'] [b, c] pos) (bF (chF g g' fa fb fc)) := PT.imp (pt_chain ho ho' ha hb hc hm) fun _ _ _ h => chF_read (bF_read h)
theorem pw_a1 (h : PB X B W a fB) : PWD X B W (.BoolOp .And [a] pos) fB := pw_and1 h
theorem pw_o1 (h : PB X B W a fB) : PWD X B W (.BoolOp .Or [a] pos) fB := pw_or1 h
theorem pw_a (ha : PB X B W a fB) (hb : PWD X B W (.BoolOp .And (b :: rest) pos) gB) : PWD X B W (.BoolOp .And (a :: b :: rest) pos) (andB fB gB) := PW.imp (pw_and ha hb) fun _ _ _ h => andB_read h
theorem pw_o (ha : PB X B W a fB) (hb : PWD X B W (.BoolOp .Or (b :: rest) pos) gB) : PWD X B W (.BoolOp .Or (a :: b :: rest) pos) (orB fB gB) := PW.imp (pw_or ha hb) fun _ _ _ h => orB_read h
theorem pb_w (h : PWD X B W a fB) : PB X B W a fB := PW.pt h
theorem pb_not (h : PB X B W a fB) : PB X B W (.UnaryOp .Not a pos) (notB fB) := PT.imp (pt_not h) fun _ _ _ h => notB_read h
end

/-! ### argument lists -/
def nilF : AF := fun ρ => .ok [] ρ
def consF (f : EF) (r : AF) : AF := fun ρ => (f ρ).bind fun x ρ1 => (r ρ1).bind fun xs ρ2 => .ok (x :: xs) ρ2
section
variable {K : Fg} {mg : MG} {B : Bs} {W : WX} {fa : EF} {fr : AF} {σ : L2.St} {H : Hp}
theorem VlsOk.mono {Hs Hs' : Hp} (e : Same Hs Hs') : ∀ {vs : List V} {xs : List Vl}, VlsOk K Hs σ vs xs → VlsOk K Hs' σ vs xs
  | _, _, .nil => .nil
  | _, _, .cons a b => .cons (a.mono e) (VlsOk.mono e b)
theorem VlsOk.length {Hs : Hp} : ∀ {vs : List V} {xs : List Vl}, VlsOk K Hs σ vs xs → vs.length = xs.length
  | _, _, .nil => rfl
  | _, _, .cons _ b => congrArg Nat.succ b.length
theorem consF_read {Q : List V → Hp → Prop} (h : tAD K mg B W (consF fa fr) σ H Q) : tCons (tD K mg B W fa) (tAD K mg B W fr) σ H Q := by
  obtain ⟨Hs, ρ, sl, q⟩ := h
  refine ⟨Hs, ρ, sl, OP.imp (OP.bind q) fun x ρ1 Hs1 H1 _ sl1 e1 q1 v hv => ?_⟩
  exact ⟨Hs1, ρ1, sl1, OP.imp (OP.bind q1) fun xs ρ2 Hs2 H2 _ sl2 e2 q2 vs hvs => q2 Hs2 H2 sl2 (.refl _) _ (.cons (hv.mono e2) hvs)⟩
end
section
variable {X : Cx} {B : Bs} {W : WX} {a b c e : Expr} {es : List Expr} {fa fb fc : EF} {fr : AF} {pos : Pos} {cf : CF}
theorem pad_nil : PAD X B W [] nilF := PA.imp pa_nil fun _ H _ ⟨Hs, ρ, sl, q⟩ => q Hs H sl (.refl _) [] .nil
theorem pad_cons (ha : PD X B W a fa) (hr : PAD X B W es fr) (hs : starEach (a :: es) X.env = (false, eval a X.env) :: starEach es X.env := by rfl) : PAD X B W (a :: es) (consF fa fr) :=
  PA.imp (pa_cons ha hr hs) fun _ _ _ h => consF_read h

/-! ### tuples and lists written out -/
def stables : List Vl → Option (List D)
  | [] => some []
  | .st d :: xs => (stables xs).map (d :: ·)
  | .at _ :: _ => none
  | .fn _ :: _ => none
theorem VlsOk.stab {K : Fg} {Hs : Hp} {σ : L2.St} : ∀ {vs : List V} {xs : List Vl} {ds : List D}, VlsOk K Hs σ vs xs → stables xs = some ds → RepA K Hs vs ds
  | _, _, _, .nil, h => by cases h; exact .nil
  | _, .st d :: xs, _, .cons a b, h => by
    cases e : stables xs with
    | none => simp only [stables, e, Option.map_none] at h; cases h
    | some es =>
      simp only [stables, e, Option.map_some, Option.some.injEq] at h
      subst h
      exact .cons a (VlsOk.stab b e)
  | _, .at i :: xs, _, .cons _ _, h => by cases h
  | _, .fn i :: xs, _, .cons _ _, h => by cases h
def short (ds : List D) : Bool := decide (ds.length ≤ 100000)
theorem short_ok {ds : List D} {vs : List V} (h : short ds = true) (l : vs.length = ds.length) : vs.length ≤ sizeLine := by
  have h1 : ds.length ≤ 100000 := of_decide_eq_true h
  have h2 : (100000 : Nat) ≤ sizeLine := by decide
  omega
def sh (mk : List D → D) (ds : List D) : Option D := if short ds = true then some (mk ds) else none
def tupF (f : AF) : EF := fun ρ => (f ρ).bind fun xs ρ1 => opt (((stables xs).bind (sh .tuple)).map Vl.st) ρ1
def lstC (f : AF) : CF := fun ρ => (f ρ).bind fun xs ρ1 => opt ((stables xs).bind (sh .list)) ρ1
/-- a new object handed out for good -/
def frC (f : CF) : EF := fun ρ => (f ρ).bind fun d ρ1 => .ok (.st d) ρ1
theorem Sl.fresh {K : Fg} {B : Bs} {Hs H : Hp} {σ : L2.St} {ρ : En} (sl : Sl K B Hs H σ ρ) {p : Addr} (n : H p = none) :
    Hs p = none ∧ B.nw p ∧ Nob K B Hs H σ ρ p := by
  refine ⟨sl.sub.free n, sl.nw_of n, ?_⟩
  obtain ⟨F, f⟩ := sl.feet
  refine ⟨F, f, fun i m => ?_⟩
  cases e : ρ[i]? with
  | none => rw [f.out i e] at m; cases m
  | some s =>
    obtain ⟨x, ex⟩ := sl_var sl e
    obtain ⟨u, z⟩ := ((f.at_ i x s ex e).there (sl.ok i x s ex e) p m).1.some
    rw [n] at z; cases z
theorem pd_tup {x1} (h : PAD X B W es fr) : PD X B W (.Tuple es x1 pos) (tupF fr) := PE.imp (pe_tup h) fun σ H Q ⟨Hs, ρ, sl, q⟩ => by
  refine ⟨Hs, ρ, sl, OP.imp (OP.bind q) fun xs ρ1 Hs1 H1 _ sl1 e1 q1 vs hvs => ?_⟩
  cases es : stables xs with
  | none => rw [es] at q1; exact q1.elim
  | some ds =>
    rw [es, Option.bind_some] at q1
    unfold sh at q1
    by_cases c : short ds = true
    · rw [if_pos c] at q1
      have r := hvs.stab es
      refine ⟨short_ok c r.length, fun p np => ?_⟩
      have g : Grow Hs1 H1 _ _ := Grow.laid (o := .tup vs) sl1.sub np
      exact q1 _ _ (sl1.grow g) g.s _ (.tup upd_same (r.mono g.s))
    · rw [if_neg c] at q1; exact q1.elim
theorem pc_lst (h : PAD X B W es fr) : PC' X B W (.List es pos) (lstC fr) := PE.imp (pe_lst h) fun σ H Q ⟨Hs, ρ, sl, q⟩ => by
  refine ⟨Hs, ρ, sl, OP.imp (OP.bind q) fun xs ρ1 Hs1 H1 _ sl1 e1 q1 vs hvs => ?_⟩
  cases es : stables xs with
  | none => rw [es] at q1; exact q1.elim
  | some ds =>
    rw [es, Option.bind_some] at q1
    unfold sh at q1
    by_cases c : short ds = true
    · rw [if_pos c] at q1
      have r := hvs.stab es
      refine ⟨short_ok c r.length, fun p np => ?_⟩
      have g : Grow Hs1 H1 Hs1 (upd H1 p (.lst vs)) := Grow.loose sl1.sub np
      obtain ⟨f1, f2, f3⟩ := sl1.fresh np
      exact q1 _ _ (sl1.grow g) (.refl _) p f1 f2 (f3.grow sl1 g) ⟨vs, upd_same, r⟩
    · rw [if_neg c] at q1; exact q1.elim
theorem pd_fr (h : PC' X B W e cf) : PD X B W e (frC cf) := PE.imp h fun σ H Q ⟨Hs, ρ, sl, q⟩ => by
  refine ⟨Hs, ρ, sl, OP.imp (OP.bind q) fun d ρ1 Hs1 H1 _ sl1 e1 q1 p n1 n2 n3 c => ?_⟩
  obtain ⟨o, eo⟩ := c.there
  exact q1 _ H1 (sl1.take eo n1 n2 n3) (same_upd n1) _ (c.frozen eo n1)

/-! ### slices -/
def partF (f : Option EF) : En → O (Option Int) := match f with
  | none => fun ρ => .ok none ρ
  | some f => fun ρ => (f ρ).bind fun x ρ1 => match x.get ρ1 with
    | some (.int i) => .ok (some i) ρ1
    | _ => .bad
def tPD (K : Fg) (mg : MG) (B : Bs) (W : WX) (f : En → O (Option Int)) : TO := fun σ H Q => ∃ Hs ρ, Sl K B Hs H σ ρ ∧ OP K mg B W σ Hs (fun x _ Hs' H' => Q x H') (f ρ)
abbrev POD (X : Cx) (B : Bs) (W : WX) (e : Option Expr) (f : Option EF) : Prop := PO X e (tPD X.K X.mg B W (partF f))
theorem PO.imp {e : Option Expr} {t t' : TO} (h : PO X e t) (i : ∀ σ H Q, t' σ H Q → t σ H Q) : PO X e t' := ⟨fun pins s σ H Q I q => h.run pins s σ H Q I (i σ H Q q)⟩
theorem pod_none : POD X B W none none := PO.imp po_none fun σ H Q ⟨Hs, ρ, sl, q⟩ => q Hs H sl (.refl _)
theorem pod_some (h : PD X B W e fa) : POD X B W (some e) (some fa) := PO.imp (po_some h) fun σ H Q ⟨Hs, ρ, sl, q⟩ => by
  refine ⟨Hs, ρ, sl, OP.imp (OP.bind q) fun x ρ1 Hs1 H1 _ sl1 e1 q1 v hv => ?_⟩
  cases ex : x.get ρ1 with
  | none => rw [ex] at q1; exact q1.elim
  | some d =>
    rw [ex] at q1
    cases d <;> first | exact q1.elim | skip
    exact ⟨_, (sl1.look hv ex).int, q1 Hs1 H1 sl1 (.refl _)⟩
def cutD (xs : List D) (lo hi : Option Int) : List D := (xs.drop (HT.sIx xs.length 0 lo)).take (HT.sIx xs.length xs.length hi - HT.sIx xs.length 0 lo)
theorem RepA.cut {K : Fg} {H : Hp} {vs : List V} {ds : List D} (lo hi : Option Int) (r : RepA K H vs ds) : RepA K H (cutV vs lo hi) (cutD ds lo hi) := by
  unfold cutV cutD
  rw [r.length]
  exact (r.drop _).take _
def slF (g : D → Option Int → Option Int → Option D) (fa : EF) (lo hi : Option EF) : EF := fun ρ => (fa ρ).bind fun x ρ1 => (partF lo ρ1).bind fun l ρ2 => (partF hi ρ2).bind fun h ρ3 => opt (((x.get ρ3).bind fun d => g d l h).map Vl.st) ρ3
def slC (g : D → Option Int → Option Int → Option D) (fa : EF) (lo hi : Option EF) : CF := fun ρ => (fa ρ).bind fun x ρ1 => (partF lo ρ1).bind fun l ρ2 => (partF hi ρ2).bind fun h ρ3 => opt ((x.get ρ3).bind fun d => g d l h) ρ3
def cutT (d : D) (lo hi : Option Int) : Option D := match d with
  | .tuple ds => some (.tuple (cutD ds lo hi))
  | .str z => if z.length ≤ sizeLine then some (.str (cutS z lo hi)) else none
  | _ => none
def cutL (d : D) (lo hi : Option Int) : Option D := match d with
  | .list ds => some (.list (cutD ds lo hi))
  | _ => none
theorem cut_whole {xs : List D} {lo hi : Option Int} (h : HT.sIx xs.length 0 lo = 0 ∧ HT.sIx xs.length xs.length hi = xs.length) : cutD xs lo hi = xs := by
  unfold cutD
  rw [h.1, h.2]
  simp
theorem pd_slT {lo hi : Option Expr} {l h : Option EF} {p2 : Pos} (ha : PD X B W a fa) (hl : POD X B W lo l) (hh : POD X B W hi h) : PD X B W (.Subscript a (.Slice lo hi none p2) pos) (slF cutT fa l h) :=
  PE.imp (pe_slice (SlR.or sl_tupA sl_str) ha hl hh) fun σ H Q ⟨Hs, ρ, sl, q⟩ => by
  refine ⟨Hs, ρ, sl, OP.imp (OP.bind q) fun x ρ1 Hs1 H1 _ sl1 e1 q1 v hv => ?_⟩
  refine ⟨Hs1, ρ1, sl1, OP.imp (OP.bind q1) fun lo' ρ2 Hs2 H2 _ sl2 e2 q2 => ?_⟩
  refine ⟨Hs2, ρ2, sl2, OP.imp (OP.bind q2) fun hi' ρ3 Hs3 H3 _ sl3 e3 q3 => ?_⟩
  cases ex : x.get ρ3 with
  | none => rw [ex] at q3; exact q3.elim
  | some d =>
    rw [ex, Option.bind_some] at q3
    have s := sl3.look (hv.mono (e2.trans e3)) ex
    cases d <;> first | exact q3.elim | skip
    · rename_i z
      unfold cutT at q3
      dsimp only at q3
      by_cases c : z.length ≤ sizeLine
      · rw [if_pos c] at q3
        exact .inr ⟨z, s.str, c, q3 Hs3 H3 sl3 (.refl _) _ (.str _)⟩
      · rw [if_neg c] at q3; exact q3.elim
    · rename_i ds
      obtain ⟨p, vs, e4, h4, r⟩ := s.tup sl3.sub
      refine .inl ⟨p, vs, e4, h4, fun hw => ?_, fun hw p' np => ?_⟩
      · rw [r.length] at hw
        have q4 := q3 Hs3 H3 sl3 (.refl _)
        rw [cut_whole hw] at q4
        rcases s with s | ⟨_, _, c⟩
        · rw [e4] at s
          exact q4 _ s
        · exact c.elim
      · have g : Grow Hs3 H3 _ _ := Grow.laid (o := .tup (cutV vs lo' hi')) sl3.sub np
        exact q3 _ _ (sl3.grow g) g.s _ (.tup upd_same ((r.cut lo' hi').mono g.s))
theorem pc_slL {lo hi : Option Expr} {l h : Option EF} {p2 : Pos} (ha : PD X B W a fa) (hl : POD X B W lo l) (hh : POD X B W hi h) : PC' X B W (.Subscript a (.Slice lo hi none p2) pos) (slC cutL fa l h) :=
  PE.imp (pe_slice sl_list ha hl hh) fun σ H Q ⟨Hs, ρ, sl, q⟩ => by
  refine ⟨Hs, ρ, sl, OP.imp (OP.bind q) fun x ρ1 Hs1 H1 _ sl1 e1 q1 v hv => ?_⟩
  refine ⟨Hs1, ρ1, sl1, OP.imp (OP.bind q1) fun lo' ρ2 Hs2 H2 _ sl2 e2 q2 => ?_⟩
  refine ⟨Hs2, ρ2, sl2, OP.imp (OP.bind q2) fun hi' ρ3 Hs3 H3 _ sl3 e3 q3 => ?_⟩
  cases ex : x.get ρ3 with
  | none => rw [ex] at q3; exact q3.elim
  | some d =>
    rw [ex, Option.bind_some] at q3
    have s := sl3.look (hv.mono (e2.trans e3)) ex
    cases d <;> first | exact q3.elim | skip
    rename_i ds
    obtain ⟨p, vs, e4, h4, r⟩ := s.lst sl3.sub
    refine ⟨p, vs, e4, .inl (.inl h4), fun p' np => ?_⟩
    have g : Grow Hs3 H3 Hs3 (upd H3 p' (.lst (cutV vs lo' hi'))) := Grow.loose sl3.sub np
    obtain ⟨f1, f2, f3⟩ := sl3.fresh np
    exact q3 _ _ (sl3.grow g) (.refl _) p' f1 f2 (f3.grow sl3 g) ⟨_, upd_same, r.cut lo' hi'⟩
end

/-! ### sums of sequences -/
def addD : D → D → Option D
  | .int i, .int j => some (.int (i + j))
  | .str x, .str y => if x.length + y.length ≤ 100000 then some (.str (x ++ y)) else none
  | .list xs, .list ys => if xs.length + ys.length ≤ 100000 then some (.list (xs ++ ys)) else none
  | .tuple xs, .tuple ys => if xs.length + ys.length ≤ 100000 then some (.tuple (xs ++ ys)) else none
  | _, _ => none
def catL : D → D → Option D
  | .list xs, .list ys => if xs.length + ys.length ≤ 100000 then some (.list (xs ++ ys)) else none
  | _, _ => none
theorem big {n : Nat} (h : n ≤ 100000) : n ≤ sizeLine := by
  have h2 : (100000 : Nat) ≤ sizeLine := by decide
  omega
section
variable {X : Cx}
theorem on_cat : OpN X (binaryOp .Add) catL := fun pins s σ H x y v u Q I rx ry q => by
  obtain ⟨Hs, d, e, z, sb, sx, sy, ez, q⟩ := q
  cases d <;> cases e <;> first | (cases ez; done) | skip
  rename_i xs ys
  unfold catL at ez
  dsimp only at ez
  by_cases c : xs.length + ys.length ≤ 100000
  · rw [if_pos c] at ez; cases ez
    obtain ⟨p, vs, e1, h1, r1⟩ := sx.lst sb
    obtain ⟨p2, ws, e2, h2, r2⟩ := sy.lst sb
    refine op_cat pins s σ H x y v u Q I rx ry ⟨p, p2, vs, ws, e1, e2, h1, h2, big (by rw [r1.length, r2.length]; exact c), fun p3 np => ?_⟩
    exact q p3 _ np (.loose sb np) ⟨_, upd_same, r1.append r2⟩
  · rw [if_neg c] at ez; cases ez
theorem ox_add : OpX X (binaryOp .Add) addD := fun pins s σ H x y v u Q I rx ry q => by
  obtain ⟨Hs, d, e, z, sb, sx, sy, ez, q⟩ := q
  cases d <;> cases e <;> first | (cases ez; done) | skip
  · cases ez
    exact op_add pins s σ H x y v u Q I rx ry ⟨_, _, sx.int, sy.int, q _ Hs H (.refl sb) (.int _)⟩
  · rename_i xs ys
    unfold addD at ez
    dsimp only at ez
    by_cases c : xs.length + ys.length ≤ 100000
    · rw [if_pos c] at ez; cases ez
      exact op_add_str pins s σ H x y v u Q I rx ry ⟨_, _, sx.str, sy.str, big c, q _ Hs H (.refl sb) (.str _)⟩
    · rw [if_neg c] at ez; cases ez
  · rename_i xs ys
    unfold addD at ez
    dsimp only at ez
    by_cases c : xs.length + ys.length ≤ 100000
    · rw [if_pos c] at ez; cases ez
      obtain ⟨p, vs, e1, h1, r1⟩ := sx.lst sb
      obtain ⟨p2, ws, e2, h2, r2⟩ := sy.lst sb
      refine op_cat pins s σ H x y v u Q I rx ry ⟨p, p2, vs, ws, e1, e2, h1, h2, big (by rw [r1.length, r2.length]; exact c), fun p3 np => ?_⟩
      have g := Grow.laid (o := .lst (vs ++ ws)) sb np
      exact q _ _ _ g (.lst upd_same ((r1.append r2).mono g.s))
    · rw [if_neg c] at ez; cases ez
  · rename_i xs ys
    unfold addD at ez
    dsimp only at ez
    by_cases c : xs.length + ys.length ≤ 100000
    · rw [if_pos c] at ez; cases ez
      obtain ⟨p, vs, e1, h1, r1⟩ := sx.tup sb
      obtain ⟨p2, ws, e2, h2, r2⟩ := sy.tup sb
      have l1 := r1.length
      have l2 := r2.length
      refine op_catA pins s σ H x y v u Q I rx ry ⟨p, p2, vs, ws, e1, e2, h1, h2, big (by omega), fun z1 => ?_, fun z1 z2 => ?_, fun z1 z2 p3 np => ?_⟩
      · subst z1
        cases r1
        rcases sy with sy | ⟨_, _, cc⟩
        · rw [e2] at sy; exact q _ Hs H (.refl sb) sy
        · exact cc.elim
      · subst z2
        cases r2
        rw [List.append_nil] at q
        rcases sx with sx | ⟨_, _, cc⟩
        · rw [e1] at sx; exact q _ Hs H (.refl sb) sx
        · exact cc.elim
      · have g := Grow.laid (o := .tup (vs ++ ws)) sb np
        exact q _ _ _ g (.tup upd_same ((r1.append r2).mono g.s))
    · rw [if_neg c] at ez; cases ez
end
def op2C (g : D → D → Option D) (fa fb : EF) : CF := fun ρ => (fa ρ).bind fun x ρ1 => (fb ρ1).bind fun y ρ2 => opt ((x.get ρ2).bind fun d => (y.get ρ2).bind fun e => g d e) ρ2
theorem pc_bin {X : Cx} {B : Bs} {W : WX} {a b : Expr} {fa fb : EF} {pos : Pos} {g : D → D → Option D} {op : Operator} (ho : OpN X (binaryOp op) g) (ha : PD X B W a fa) (hb : PD X B W b fb) : PC' X B W (.BinOp a op b pos) (op2C g fa fb) :=
  PE.imp (pe_op ho ha hb) fun σ H Q ⟨Hs, ρ, sl, q⟩ => by
  refine ⟨Hs, ρ, sl, OP.imp (OP.bind q) fun x ρ1 Hs1 H1 _ sl1 e1 q1 v hv => ?_⟩
  refine ⟨Hs1, ρ1, sl1, OP.imp (OP.bind q1) fun y ρ2 Hs2 H2 _ sl2 e2 q2 u hu => ?_⟩
  cases ex : x.get ρ2 with
  | none => rw [ex] at q2; exact q2.elim
  | some d =>
    cases ey : y.get ρ2 with
    | none => rw [ex, ey] at q2; exact q2.elim
    | some e =>
      cases ez : g d e with
      | none => rw [ex, ey, Option.bind_some, Option.bind_some, ez] at q2; exact q2.elim
      | some z =>
        rw [ex, ey, Option.bind_some, Option.bind_some, ez] at q2
        refine ⟨Hs2, d, e, z, sl2.sub, sl2.look (hv.mono e2) ex, sl2.look hu ey, ez, fun p H' np gr cn => ?_⟩
        obtain ⟨f1, f2, f3⟩ := sl2.fresh np
        exact q2 Hs2 H' (sl2.grow gr) (.refl _) p f1 f2 (f3.grow sl2 gr) cn
end DL

/-! DL6 -/
namespace DL
open PySem PySem.Spec PyProof.Rows L2

/-! ### slots stored, own objects written -/
section
variable {K : Fg} {B : Bs} {Hs H : Hp} {σ : L2.St} {ρ : En}
theorem Sl.store {i : Nat} {v : V} {s : Slot} (sl : Sl K B Hs H σ ρ) (ok : SlotOk K B Hs H (some v) s)
    (ap : s.mut = true → ∃ f, Feet K B Hs H (some v) s f ∧ ∃ F, FeetOk K B Hs H σ ρ F ∧ ∀ j, i ≠ j → ∀ a ∈ f, a ∉ F j) : Sl K B Hs H (σ.set i (some v)) (ρ.set i s) where
  len := by rw [List.length_set, List.length_set]; exact sl.len
  ok := fun j x t a b => by
    by_cases h : i = j
    · subst h
      have hl := (List.getElem?_eq_some_iff.mp b).1
      have hl' := (List.getElem?_eq_some_iff.mp a).1
      rw [List.length_set] at hl hl'
      rw [List.getElem?_set_self hl] at b
      rw [List.getElem?_set_self hl'] at a
      cases b
      cases a
      exact ok
    · rw [List.getElem?_set_ne h] at a b
      exact sl.ok j x t a b
  sub := sl.sub
  base := sl.base
  new := sl.new
  keep := sl.keep
  there := sl.there
  feet := by
    have key : ∃ f, Feet K B Hs H (some v) s f ∧ ∃ F, FeetOk K B Hs H σ ρ F ∧ ∀ j, i ≠ j → ∀ a ∈ f, a ∉ F j := by
      cases e : s.mut with
      | true => exact ap e
      | false =>
        obtain ⟨F, h⟩ := sl.feet
        refine ⟨[], ?_, F, h, fun j _ a m => by cases m⟩
        cases s <;> first | (cases e; done) | rfl
    obtain ⟨f, ff, F, h, dj⟩ := key
    by_cases hi : i < ρ.length
    · refine ⟨fun j => if i = j then f else F j, ⟨fun j x t a b => ?_, fun j a => ?_, fun j k hjk a ha hb => ?_⟩⟩
      · by_cases e : i = j
        · subst e
          have hl' := (List.getElem?_eq_some_iff.mp a).1
          rw [List.length_set] at hl'
          rw [List.getElem?_set_self hi] at b
          rw [List.getElem?_set_self hl'] at a
          cases b
          cases a
          rw [if_pos rfl]
          exact ff
        · rw [List.getElem?_set_ne e] at a b
          rw [if_neg e]
          exact h.at_ j x t a b
      · by_cases e : i = j
        · subst e
          rw [List.getElem?_set_self hi] at a
          cases a
        · rw [if_neg e]
          rw [List.getElem?_set_ne e] at a
          exact h.out j a
      · by_cases e : i = j
        · rw [if_pos e] at ha
          rw [if_neg (fun z => hjk (e.symm.trans z))] at hb
          exact dj k (fun z => hjk (e.symm.trans z)) a ha hb
        · rw [if_neg e] at ha
          by_cases e2 : i = k
          · rw [if_pos e2] at hb
            exact dj j e a hb ha
          · rw [if_neg e2] at hb
            exact h.dis j k hjk a ha hb
    · have e1 : ρ.set i s = ρ := List.set_eq_of_length_le (by omega)
      have e2 : σ.set i (some v) = σ := List.set_eq_of_length_le (by rw [sl.len]; omega)
      rw [e1, e2]
      exact sl.feet
/-- .. a new object of one's own -/
theorem Sl.storeO {i : Nat} {p : Addr} {d : D} (sl : Sl K B Hs H σ ρ) (n1 : Hs p = none) (n2 : B.nw p) (n3 : Nob K B Hs H σ ρ p) (cn : Cont K Hs H p d) : Sl K B Hs H (σ.set i (some (.ref p))) (ρ.set i (.own d)) := by
  obtain ⟨F, h, q⟩ := n3
  exact sl.store ⟨p, rfl, n1, n2, cn⟩ fun _ => ⟨[p], ⟨p, rfl, rfl⟩, F, h, fun j _ a m => by rw [List.mem_singleton] at m; subst m; exact q j⟩
/-- the content of an own slot -/
def Slot.put (d : D) : Slot → Slot
  | .own _ => .own d
  | .arg _ => .arg d
  | s => s
def Slot.shal : Slot → Bool
  | .own _ => true
  | .arg _ => true
  | _ => false
def Slot.cont : Slot → Option D
  | .own d => some d
  | .arg d => some d
  | _ => none
theorem Slot.put_mut {s : Slot} {d : D} : (s.put d).mut = s.mut := by cases s <;> rfl
theorem own_at {i : Nat} {s : Slot} {d : D} (sl : Sl K B Hs H σ ρ) (h : ρ[i]? = some s) (hc : s.cont = some d) :
    ∃ p, σ[i]? = some (some (.ref p)) ∧ Hs p = none ∧ Cont K Hs H p d ∧ (B.own0 p ∨ B.nw p) := by
  obtain ⟨x, ex⟩ := sl_var sl h
  have o := sl.ok i x s ex h
  cases s with
  | own d' =>
    cases hc
    obtain ⟨p, rfl, n, z, c⟩ := o
    exact ⟨p, ex, n, c, .inr z⟩
  | arg d' =>
    cases hc
    obtain ⟨p, rfl, n, ⟨_, z⟩, c⟩ := o
    exact ⟨p, ex, n, c, z.symm⟩
  | _ => cases hc
/-- an own object changes: all else stays -/
theorem Sl.write0 {i : Nat} {s : Slot} {d d' : D} {p : Addr} {Hs' H' : Hp} (sl : Sl K B Hs H σ ρ) (h : ρ[i]? = some s) (hc : s.cont = some d) (hp : σ[i]? = some (some (.ref p)))
    (es : Same Hs Hs') (sub : Same Hs' H') (new : ∀ a, Hs' a = none ∨ Hs a ≠ none ∨ (H a = none ∨ TupAt H a)) (keep : ∀ a o, H a = some o → a ≠ p → H' a = some o) (n' : Hs' p = none) (c' : Cont K Hs' H' p d') :
    Sl K B Hs' H' σ (ρ.set i (s.put d')) ∧ ∀ F, FeetOk K B Hs H σ ρ F → FeetOk K B Hs' H' σ (ρ.set i (s.put d')) F := by
  suffices key : ∀ F, FeetOk K B Hs H σ ρ F → Sl K B Hs' H' σ (ρ.set i (s.put d')) ∧ FeetOk K B Hs' H' σ (ρ.set i (s.put d')) F by
    obtain ⟨F, h0⟩ := sl.feet
    exact ⟨(key F h0).1, fun F h => (key F h).2⟩
  intro F fe
  have hi : i < ρ.length := (List.getElem?_eq_some_iff.mp h).1
  obtain ⟨p0, hp0, n, c, bz⟩ := own_at sl h hc
  rw [hp] at hp0
  cases hp0
  have hm : s.mut = true := by cases s <;> first | rfl | cases hc
  have fi : F i = [p] := by
    have q := fe.at_ i _ s hp h
    cases s with
    | own d0 => obtain ⟨q1, q2, q3⟩ := q; cases q2; exact q3
    | arg d0 => obtain ⟨q1, q2, q3⟩ := q; cases q2; exact q3
    | _ => cases hc
  have other : ∀ (j : Nat) (a : Addr), i ≠ j → a ∈ F j → a ≠ p := fun j a hij m e => by
    subst e
    exact fe.dis i j hij a (by rw [fi]; exact List.mem_singleton_self a) m
  have kk : ∀ (j : Nat) (x : Option V) (t : Slot), i ≠ j → σ[j]? = some x → ρ[j]? = some t → (∀ a ∈ F j, ∀ o, H a = some o → H' a = some o) ∧ ∀ a ∈ F j, Hs a = none → Hs' a = none := fun j x t hij a b => by
    have th := (fe.at_ j x t a b).there (sl.ok j x t a b)
    refine ⟨fun c m o e => keep c o e (other j c hij m), fun c m e => ?_⟩
    rcases new c with q | q | q
    · exact q
    · exact absurd e q
    · exact ((th c m).1.nofree q).elim
  have tk : ∀ a, TupAt H a → TupAt H' a := fun a ⟨xs, e⟩ => ⟨xs, keep a _ e fun z => c.own.notup ⟨xs, by rw [← z]; exact e⟩⟩
  have fe' : FeetOk K B Hs' H' σ (ρ.set i (s.put d')) F := by
    refine ⟨fun j x t a b => ?_, fun j a => ?_, fe.dis⟩
    · by_cases hij : i = j
      · subst hij
        rw [List.getElem?_set_self hi] at b
        cases b
        have q := fe.at_ i _ s hp h
        rw [hp] at a
        cases a
        cases s with
        | own d0 => exact q
        | arg d0 => exact q
        | _ => cases hc
      · rw [List.getElem?_set_ne hij] at b
        obtain ⟨k1, k2⟩ := kk j x t hij a b
        exact (fe.at_ j x t a b).mono es k1 k2
    · by_cases hij : i = j
      · subst hij
        rw [List.getElem?_set_self hi] at a
        cases a
      · rw [List.getElem?_set_ne hij] at a
        exact fe.out j a
  refine ⟨⟨by rw [List.length_set]; exact sl.len, fun j x t a b => ?_, sub, sl.base.trans es, fun a => ?_, fun a o e w w1 => ?_, fun a w => ?_, F, fe'⟩, fe'⟩
  · by_cases hij : i = j
    · subst hij
      rw [List.getElem?_set_self hi] at b
      cases b
      have o := sl.ok i x s a h
      cases s with
      | own d0 =>
        obtain ⟨p1, e1, _, z, _⟩ := o
        rw [hp] at a; cases a; cases e1
        exact ⟨_, rfl, n', z, c'⟩
      | arg d0 =>
        obtain ⟨p1, e1, _, z, _⟩ := o
        rw [hp] at a; cases a; cases e1
        exact ⟨_, rfl, n', z, c'⟩
      | _ => cases hc
    · rw [List.getElem?_set_ne hij] at b
      obtain ⟨k1, k2⟩ := kk j x t hij a b
      exact (sl.ok j x t a b).stays (fe.at_ j x t a b) es k1 k2
  · rcases new a with q | q | q
    · exact .inl q
    · rcases sl.new a with r | r | r
      · exact absurd r q
      · exact .inr (.inl r)
      · exact .inr (.inr (r.imp id (tk a)))
    · exact .inr (.inr (q.imp sl.nw_of (tk a)))
  · refine keep a o (sl.keep a o e w w1) fun ea => ?_
    subst ea
    rcases bz with z | z | z
    · exact w z
    · rw [e] at z; cases z
    · exact w1 z
  · obtain ⟨o, e⟩ := sl.there a w
    by_cases ea : a = p
    · subst ea; exact c'.there
    · exact ⟨o, keep a o e ea⟩
theorem Sl.write {i : Nat} {s : Slot} {d d' : D} {p : Addr} {Hs' H' : Hp} (sl : Sl K B Hs H σ ρ) (h : ρ[i]? = some s) (hc : s.cont = some d) (hp : σ[i]? = some (some (.ref p)))
    (es : Same Hs Hs') (sub : Same Hs' H') (new : ∀ a, Hs' a = none ∨ Hs a ≠ none ∨ (H a = none ∨ TupAt H a)) (keep : ∀ a o, H a = some o → a ≠ p → H' a = some o) (n' : Hs' p = none) (c' : Cont K Hs' H' p d') :
    Sl K B Hs' H' σ (ρ.set i (s.put d')) := (sl.write0 h hc hp es sub new keep n' c').1
theorem Sl.upd {i : Nat} {s : Slot} {d d' : D} {p : Addr} {o : HO} (sl : Sl K B Hs H σ ρ) (h : ρ[i]? = some s) (hc : s.cont = some d) (hp : σ[i]? = some (some (.ref p))) (n : Hs p = none)
    (c' : Cont K Hs (upd H p o) p d') : Sl K B Hs (L2.upd H p o) σ (ρ.set i (s.put d')) :=
  sl.write h hc hp (.refl _) (same_into sl.sub n) (fun a => by
    cases e : Hs a with
    | none => exact .inl rfl
    | some o => exact .inr (.inl (by simp))) (fun a o e ne => by rw [upd_ne ne]; exact e) n c'
end

/-! ### statements -/
def RetOk (K : Fg) (Hs H : Hp) (nw : Addr → Prop) (fr : Bool) (v : V) (d : D) : Prop := if fr = true then ∃ p, v = .ref p ∧ Hs p = none ∧ nw p ∧ Cont K Hs H p d else Rep K Hs v d
def SQ (K : Fg) (mg : MG) (B : Bs) (W : WX) (Hs : Hp) (D' : Ends) : SO → Prop
  | .nx ρ' => ∀ σ' Hs' H', Sl K B Hs' H' σ' ρ' → Same Hs Hs' → D'.nx σ' H'
  | .bk ρ' => ∀ σ' Hs' H', Sl K B Hs' H' σ' ρ' → Same Hs Hs' → D'.bk σ' H'
  | .ct ρ' => ∀ σ' Hs' H', Sl K B Hs' H' σ' ρ' → Same Hs Hs' → D'.ct σ' H'
  | .rt d fr ρ' => ∀ σ' Hs' H' v, Sl K B Hs' H' σ' ρ' → Same Hs Hs' → RetOk K Hs' H' B.nw fr v d → D'.rt v H'
  | .er e ρ' => ∀ cls od σ' Hs' H', Sl K B Hs' H' σ' ρ' → Same Hs Hs' → ErOk K mg e cls od Hs' H' → W cls od σ' H'
  | .bad => False
theorem SQ.later {K : Fg} {mg : MG} {B : Bs} {W : WX} {Hs Hs1 : Hp} {D' : Ends} {o : SO} (h : SQ K mg B W Hs D' o) (e : Same Hs Hs1) : SQ K mg B W Hs1 D' o := by
  cases o with
  | nx r => exact fun σ' Hs' H' s g => h σ' Hs' H' s (e.trans g)
  | bk r => exact fun σ' Hs' H' s g => h σ' Hs' H' s (e.trans g)
  | ct r => exact fun σ' Hs' H' s g => h σ' Hs' H' s (e.trans g)
  | rt d fr r => exact fun σ' Hs' H' v s g => h σ' Hs' H' v s (e.trans g)
  | er z r => exact fun c od σ' Hs' H' s g => h c od σ' Hs' H' s (e.trans g)
  | bad => exact h
def tSD (K : Fg) (mg : MG) (B : Bs) (W : WX) (f : SF) : TS := fun D' σ H => ∃ Hs ρ, Sl K B Hs H σ ρ ∧ SQ K mg B W Hs D' (f ρ)
abbrev PSD (X : Cx) (B : Bs) (W : WX) (st : Stmt) (f : SF) : Prop := PS X st (tSD X.K X.mg B W f)
abbrev PSsD (X : Cx) (B : Bs) (W : WX) (st : List Stmt) (f : SF) : Prop := PSs X st (tSD X.K X.mg B W f)
def nxS : SF := fun ρ => .nx ρ
def seqS (f g : SF) : SF := fun ρ => match f ρ with
  | .nx ρ' => g ρ'
  | o => o
/-- an outcome of an expression, then -/
def O.then {α : Type} (o : O α) (k : α → En → SO) : SO := match o with
  | .ok a r => k a r
  | .er e r => .er e r
  | .bad => .bad
def asg (i : Nat) (f : EF) : SF := fun ρ => (f ρ).then fun x ρ1 => match x with
  | .st d => .nx (ρ1.set i (.val d))
  | .fn a => .nx (ρ1.set i (.fn a))
  | .at _ => .bad
def asgO (i : Nat) (f : CF) : SF := fun ρ => (f ρ).then fun d ρ1 => .nx (ρ1.set i (.own d))
def exprS (f : EF) : SF := fun ρ => (f ρ).then fun _ ρ1 => .nx ρ1
def retS (f : EF) : SF := fun ρ => (f ρ).then fun x ρ1 => match x with
  | .st d => .rt d false ρ1
  | _ => .bad
def retC (f : CF) : SF := fun ρ => (f ρ).then fun d ρ1 => .rt d true ρ1
def retO (i : Nat) : SF := fun ρ => match ρ[i]? with
  | some (.own d) => .rt d true ρ
  | _ => .bad
def retN : SF := fun ρ => .rt .none false ρ
def ifS (c : BF) (f g : SF) : SF := fun ρ => (c ρ).then fun b ρ1 => if b = true then f ρ1 else g ρ1
def augS (i : Nat) (g : D → D → Option D) (f : EF) : SF := fun ρ => match ρ[i]? with
  | some (.val d) => (f ρ).then fun x ρ1 => match (x.get ρ1).bind (g d) with
    | some z => .nx (ρ1.set i (.val z))
    | none => .bad
  | _ => .bad
def Slot.lst : Slot → Option (List D)
  | .own (.list ds) => some ds
  | .arg (.list ds) => some ds
  | _ => none
theorem Slot.lst_cont {s : Slot} {ds : List D} (h : s.lst = some ds) : s.cont = some (.list ds) := by
  cases s <;> first | (cases h; done) | skip
  all_goals
    rename_i d
    cases d <;> first | (cases h; done) | skip
    cases h
    rfl
def appS (i : Nat) (f : EF) : SF := fun ρ => match (ρ[i]?).bind Slot.lst with
  | some _ => (f ρ).then fun x ρ1 => match x, ρ1[i]? with
    | .st d, some s1 => (match s1.lst with
      | some ds => if ds.length < 100000 then .nx (ρ1.set i (s1.put (.list (ds ++ [d])))) else .bad
      | none => .bad)
    | _, _ => .bad
  | none => .bad
/-- xs[j] = e -/
def setS (i : Nat) (fi f : EF) : SF := fun ρ => (f ρ).then fun x ρ1 => match x, ρ1[i]? with
  | .st d, some s0 => if s0.shal = true then (fi ρ1).then fun y ρ2 => match y, ρ2[i]? with
    | .st (.int k), some s => (match s.lst with
      | some ds => (match ixN ds.length k with
        | some j => .nx (ρ2.set i (s.put (.list (ds.set j d))))
        | none => .bad)
      | none => .bad)
    | _, _ => .bad else .bad
  | _, _ => .bad
section
variable {K : Fg} {mg : MG} {B : Bs} {W : WX} {σ : L2.St} {Hs Hs1 H H' : Hp} {α β : Type}
theorem OP.stm {D' : Ends} {o : O α} {k : α → En → SO} (h : SQ K mg B W Hs D' (o.then k)) : OP K mg B W σ Hs (fun x ρ Hs' _ => SQ K mg B W Hs' D' (k x ρ)) o := by
  cases o with
  | ok x r => exact fun _ _ _ e => SQ.later h e
  | er _ r => exact fun cls od Hs' H' sl g z => h cls od σ Hs' H' sl g z
  | bad => exact h
end
section
variable {X : Cx} {B : Bs} {W : WX} {a b c e : Expr} {es : List Expr} {fa fb fc : EF} {fr : AF} {pos pos' : Pos} {cf : CF} {st : Stmt} {rest sa sb : List Stmt} {f g : SF} {x : Str} {cB : BF}
theorem psd_nil : PSsD X B W [] nxS := PSs.imp pss_nil fun D' σ H ⟨Hs, ρ, sl, q⟩ => q σ Hs H sl (.refl _)
theorem psd_cons (h : PSD X B W st f) (hr : PSsD X B W rest g) : PSsD X B W (st :: rest) (seqS f g) := PSs.imp (pss_cons h hr) fun D' σ H ⟨Hs, ρ, sl, q⟩ => by
  refine ⟨Hs, ρ, sl, ?_⟩
  unfold seqS at q
  cases e : f ρ with
  | nx r => rw [e] at q; exact fun σ' Hs' H' sl' g => ⟨Hs', r, sl', SQ.later q g⟩
  | rt d fr r => rw [e] at q; exact q
  | bk r => rw [e] at q; exact q
  | ct r => rw [e] at q; exact q
  | er z r => rw [e] at q; exact q
  | bad => rw [e] at q; exact q
theorem psd_one (h : PSD X B W st f) : PSsD X B W [st] f := pss_one h
theorem psd_pass : PSD X B W (.Pass pos) nxS := PS.imp ps_pass fun D' σ H ⟨Hs, ρ, sl, q⟩ => q σ Hs H sl (.refl _)
theorem psd_break : PSD X B W (.Break pos) (fun ρ => .bk ρ) := PS.imp ps_break fun D' σ H ⟨Hs, ρ, sl, q⟩ => q σ Hs H sl (.refl _)
theorem psd_cont : PSD X B W (.Continue pos) (fun ρ => .ct ρ) := PS.imp ps_continue fun D' σ H ⟨Hs, ρ, sl, q⟩ => q σ Hs H sl (.refl _)
theorem asg_read {D' : Ends} {σ : L2.St} {H : Hp} {i : Nat} (h : tSD X.K X.mg B W (asg i fa) D' σ H) : tAsg (tD X.K X.mg B W fa) (gName i) D' σ H := by
  obtain ⟨Hs, ρ, sl, q⟩ := h
  refine ⟨Hs, ρ, sl, OP.imp (OP.stm q) fun x ρ1 Hs1 H1 _ sl1 e1 q1 v hv => ?_⟩
  cases x with
  | «at» j => exact q1.elim
  | st d => exact q1 _ Hs1 H1 (sl1.store ⟨v, rfl, hv⟩ fun z => by cases z) (.refl _)
  | fn f => exact q1 _ Hs1 H1 (sl1.store (congrArg some hv) fun z => by cases z) (.refl _)
theorem psd_set {i : Nat} (hN : X.N.Nodup) (hi : X.N[i]? = some x) (hx : Loc X.env.scope x) (he : PD X B W e fa) (hs : swapsWith e (some (.Name x pos')) pos.line X.env = pure false := by rfl)
    (hf : X.fn x = true ∨ X.env.scope.names.lookup x = some .local := by first | exact .inl rfl | exact .inr rfl | assumption) : PSD X B W (.Assign [.Name x pos'] e pos) (asg i fa) :=
  PS.imp (ps_set hN hi hx he hs hf) fun _ _ _ h => asg_read h
theorem asgO_read {D' : Ends} {σ : L2.St} {H : Hp} {i : Nat} (h : tSD X.K X.mg B W (asgO i cf) D' σ H) : tAsg (tC' X.K X.mg B W cf) (gName i) D' σ H := by
  obtain ⟨Hs, ρ, sl, q⟩ := h
  refine ⟨Hs, ρ, sl, OP.imp (OP.stm q) fun d ρ1 Hs1 H1 _ sl1 e1 q1 p n1 n2 n3 cn => ?_⟩
  exact q1 _ Hs1 H1 (sl1.storeO n1 n2 n3 cn) (.refl _)
theorem psd_setO {i : Nat} (hN : X.N.Nodup) (hi : X.N[i]? = some x) (hx : Loc X.env.scope x) (he : PC' X B W e cf) (hs : swapsWith e (some (.Name x pos')) pos.line X.env = pure false := by rfl)
    (hf : X.fn x = true ∨ X.env.scope.names.lookup x = some .local := by first | exact .inl rfl | exact .inr rfl | assumption) : PSD X B W (.Assign [.Name x pos'] e pos) (asgO i cf) :=
  PS.imp (ps_set hN hi hx he hs hf) fun _ _ _ h => asgO_read h
theorem psd_expr (he : PD X B W e fa) (hs : swapsWith e none pos.line X.env = pure false := by rfl) : PSD X B W (.Expr e pos) (exprS fa) := PS.imp (ps_expr he hs) fun D' σ H ⟨Hs, ρ, sl, q⟩ =>
  ⟨Hs, ρ, sl, OP.imp (OP.stm q) fun x ρ1 Hs1 H1 _ sl1 e1 q1 v hv => q1 _ Hs1 H1 sl1 (.refl _)⟩
theorem psd_ret (he : PD X B W e fa) : PSD X B W (.Return (some e) pos) (retS fa) := PS.imp (ps_ret he) fun D' σ H ⟨Hs, ρ, sl, q⟩ =>
  ⟨Hs, ρ, sl, OP.imp (OP.stm q) fun x ρ1 Hs1 H1 _ sl1 e1 q1 v hv => by
    cases x with
    | st d => exact q1 σ Hs1 H1 v sl1 (.refl _) hv
    | «at» j => exact q1.elim
    | fn f => exact q1.elim⟩
theorem psd_retC (he : PC' X B W e cf) : PSD X B W (.Return (some e) pos) (retC cf) := PS.imp (ps_ret he) fun D' σ H ⟨Hs, ρ, sl, q⟩ =>
  ⟨Hs, ρ, sl, OP.imp (OP.stm q) fun d ρ1 Hs1 H1 _ sl1 e1 q1 p n1 n2 n3 cn => q1 σ Hs1 H1 _ sl1 (.refl _) ⟨p, rfl, n1, n2, cn⟩⟩
theorem psd_retO {i : Nat} (he : PE X e (tVar i)) : PSD X B W (.Return (some e) pos) (retO i) := PS.imp (ps_ret he) fun D' σ H ⟨Hs, ρ, sl, q⟩ => by
  unfold retO at q
  cases es : ρ[i]? with
  | none => rw [es] at q; exact q.elim
  | some s =>
    rw [es] at q
    cases s <;> first | exact q.elim | skip
    obtain ⟨y, ey⟩ := sl_var sl es
    obtain ⟨p, e1, n, z, c⟩ := sl.ok i _ _ ey es
    subst e1
    exact ⟨_, ey, q σ Hs H _ sl (.refl _) ⟨p, rfl, n, z, c⟩⟩
theorem psd_retN : PSD X B W (.Return none pos) retN := PS.imp ps_retN fun D' σ H ⟨Hs, ρ, sl, q⟩ => q σ Hs H _ sl (.refl _) .non
theorem psd_if (hc : PB X B W c cB) (ha : PSsD X B W sa f) (hb : PSsD X B W sb g) : PSD X B W (.If c sa sb pos) (ifS cB f g) := PS.imp (ps_if hc ha hb) fun D' σ H ⟨Hs, ρ, sl, q⟩ =>
  ⟨Hs, ρ, sl, OP.imp (OP.stm q) fun b ρ1 Hs1 H1 _ sl1 e1 q1 => by
    cases b with
    | true => exact ⟨Hs1, ρ1, sl1, q1⟩
    | false => exact ⟨Hs1, ρ1, sl1, q1⟩⟩
theorem psd_aug {i : Nat} {op : Operator} {gg : D → D → Option D} (hN : X.N.Nodup) (hi : X.N[i]? = some x) (hx : Loc X.env.scope x) (ho : OpX X (inplaceOp op) gg) (he : PD X B W e fa)
    (hf : X.fn x = true ∨ X.env.scope.names.lookup x = some .local := by first | exact .inl rfl | exact .inr rfl | assumption) : PSD X B W (.AugAssign (.Name x pos') op e pos) (augS i gg fa) :=
  PS.imp (ps_aug (ti := rX X.K gg) hN hi hx he (fun pins s σ H x y v u Q I rx ry q => ho pins s σ H x y v u Q I rx ry q) hf) fun D' σ H ⟨Hs, ρ, sl, q⟩ => by
  unfold augS at q
  cases e0 : ρ[i]? with
  | none => rw [e0] at q; exact q.elim
  | some s =>
    rw [e0] at q
    cases s <;> first | exact q.elim | skip
    rename_i d
    obtain ⟨y, ey⟩ := sl_var sl e0
    obtain ⟨v, rfl, r0⟩ := sl.ok i _ _ ey e0
    refine ⟨v, ey, Hs, ρ, sl, OP.imp (OP.stm q) fun x ρ1 Hs1 H1 _ sl1 e1 q1 u hu => ?_⟩
    cases ex : x.get ρ1 with
    | none => rw [ex] at q1; exact q1.elim
    | some d2 =>
      rw [ex, Option.bind_some] at q1
      cases eg : gg d d2 with
      | none => rw [eg] at q1; exact q1.elim
      | some z =>
        rw [eg] at q1
        exact ⟨Hs1, d, d2, z, sl1.sub, .inl (r0.mono e1), sl1.look hu ex, eg, fun w Hs' H' gr r => q1 _ Hs' H' ((sl1.grow gr).store ⟨w, rfl, r⟩ fun z => by cases z) gr.s⟩
/-- x.append(e), x one's own -/
theorem psd_app {i : Nat} {c : Expr} (h : PE X c (tBM X.K "list" rAppend (tVar i) (tCons (tD X.K X.mg B W fa) tNil))) (hs : swapsWith c none pos.line X.env = pure false := by rfl) : PSD X B W (.Expr c pos) (appS i fa) :=
  PS.imp (ps_expr h hs) fun D' σ H ⟨Hs, ρ, sl, q⟩ => by
  unfold appS at q
  cases e0 : ρ[i]? with
  | none => rw [e0] at q; exact q.elim
  | some s0 =>
    rw [e0, Option.bind_some] at q
    cases hl : s0.lst with
    | none => rw [hl] at q; exact q.elim
    | some ds0 =>
      rw [hl] at q
      dsimp only at q
      obtain ⟨pp, ep, _, ⟨vs0, hv0, _⟩, _⟩ := own_at sl e0 (Slot.lst_cont hl)
      refine ⟨_, ep, .inl ⟨rfl, _, .inl (.inl hv0)⟩, Hs, ρ, sl, OP.imp (OP.stm q) fun x ρ1 Hs1 H1 _ sl1 e1 q1 u hu => ?_⟩
      cases x <;> first | exact q1.elim | skip
      rename_i d
      cases e2 : ρ1[i]? with
      | none => rw [e2] at q1; exact q1.elim
      | some s1 =>
        rw [e2] at q1
        dsimp only at q1
        cases hc1 : s1.lst with
        | none => rw [hc1] at q1; exact q1.elim
        | some ds =>
          rw [hc1] at q1
          dsimp only at q1
          by_cases hz : ds.length < 100000
          · rw [if_pos hz] at q1
            obtain ⟨p2, ep2, n2, ⟨vs, hv, rv⟩, _⟩ := own_at sl1 e2 (Slot.lst_cont hc1)
            rw [ep] at ep2
            cases ep2
            refine ⟨pp, vs, u, rfl, rfl, hv, ?_, ?_⟩
            · have h2 : (100000 : Nat) ≤ sizeLine := by decide
              rw [rv.length]
              omega
            · exact q1 σ Hs1 _ (sl1.upd e2 (Slot.lst_cont hc1) ep n2 ⟨_, upd_same, rv.append (.cons hu .nil)⟩) (.refl _)
          · rw [if_neg hz] at q1; exact q1.elim
/-- x[j] = e, x one's own list -/
theorem psd_seti {i : Nat} (h : PS X st (tAsg (tD X.K X.mg B W fa) (gSub (tVar i) (tD X.K X.mg B W fb) rSetL))) : PSD X B W st (setS i fb fa) :=
  PS.imp h fun D' σ H ⟨Hs, ρ, sl, q⟩ => by
  refine ⟨Hs, ρ, sl, OP.imp (OP.stm q) fun x ρ1 Hs1 H1 _ sl1 e1 q1 u hu => ?_⟩
  cases x <;> first | exact q1.elim | skip
  rename_i d
  cases e0 : ρ1[i]? with
  | none => rw [e0] at q1; exact q1.elim
  | some s0 =>
    rw [e0] at q1
    dsimp only at q1
    by_cases hm : s0.shal = true
    · rw [if_pos hm] at q1
      obtain ⟨d0, hd0⟩ : ∃ d, s0.cont = some d := by cases s0 <;> first | (cases hm; done) | exact ⟨_, rfl⟩
      obtain ⟨pp, ep, _, _, _⟩ := own_at sl1 e0 hd0
      refine ⟨_, ep, Hs1, ρ1, sl1, OP.imp (OP.stm q1) fun y ρ2 Hs2 H2 _ sl2 e2 q2 w hw => ?_⟩
      cases y <;> first | exact q2.elim | skip
      rename_i dk ed
      clear ed
      cases dk <;> first | exact q2.elim | skip
      rename_i k
      cases e3 : ρ2[i]? with
      | none => rw [e3] at q2; exact q2.elim
      | some s =>
        rw [e3] at q2
        dsimp only at q2
        cases hl : s.lst with
        | none => rw [hl] at q2; exact q2.elim
        | some ds =>
          rw [hl] at q2
          dsimp only at q2
          cases ej : ixN ds.length k with
          | none => rw [ej] at q2; exact q2.elim
          | some j =>
            rw [ej] at q2
            obtain ⟨p2, ep2, n2, ⟨vs, hv, rv⟩, _⟩ := own_at sl2 e3 (Slot.lst_cont hl)
            rw [ep] at ep2
            cases ep2
            have ew : w = .int k := Shal.int (K := X.K) (Hs := Hs2) (H := H2) (.inl hw)
            refine ⟨pp, vs, k, j, rfl, ew, hv, by rw [rv.length]; exact ej, ?_⟩
            exact q2 σ Hs2 _ (sl2.upd e3 (Slot.lst_cont hl) ep n2 ⟨_, upd_same, RepA.set (Rep.mono e2 hu) j rv⟩) (.refl _)
    · rw [if_neg hm] at q1; exact q1.elim
/-- x.pop(), x one's own list -/
def popF (i : Nat) : EF := fun ρ => match ρ[i]? with
  | some s => (match s.lst with
    | some ds => (match ds[ds.length - 1]? with
      | some d => .ok (.st d) (ρ.set i (s.put (.list ds.dropLast)))
      | none => .bad)
    | none => .bad)
  | none => .bad
theorem pd_pop {i : Nat} (h : PE X e (tBM0 X.K "list" rPop (tVar i))) : PD X B W e (popF i) := PE.imp h fun σ H Q ⟨Hs, ρ, sl, q⟩ => by
  unfold popF at q
  cases e0 : ρ[i]? with
  | none => rw [e0] at q; exact q.elim
  | some s =>
    rw [e0] at q
    dsimp only at q
    cases hl : s.lst with
    | none => rw [hl] at q; exact q.elim
    | some ds =>
      rw [hl] at q
      dsimp only at q
      cases ed : ds[ds.length - 1]? with
      | none => rw [ed] at q; exact q.elim
      | some d =>
        rw [ed] at q
        obtain ⟨pp, ep, n, ⟨vs, hv, rv⟩, _⟩ := own_at sl e0 (Slot.lst_cont hl)
        obtain ⟨v, ev, rd⟩ := rv.get ed
        refine ⟨_, ep, .inl ⟨rfl, _, .inl (.inl hv)⟩, pp, vs, v, rfl, rfl, hv, by rw [rv.length]; exact ev, ?_⟩
        exact q Hs _ (sl.upd e0 (Slot.lst_cont hl) ep n ⟨_, upd_same, rv.dropLast⟩) (.refl _) v rd
end
end DL

/-! DL7 -/
namespace DL
open PySem PySem.Spec PyProof.Rows L2

/-! ### what a def promises -/
/-- a parameter: data, or a def -/
inductive Md where
  | p | f (a : Addr)
inductive ArgsOk (K : Fg) (Hs : Hp) : List Md → List V → List D → Prop
  | nil : ArgsOk K Hs [] [] []
  | p {ms : List Md} {v : V} {vs : List V} {d : D} {ds : List D} : Rep K Hs v d → ArgsOk K Hs ms vs ds → ArgsOk K Hs (.p :: ms) (v :: vs) (d :: ds)
  | f {ms : List Md} {a : Addr} {vs : List V} {ds : List D} : ArgsOk K Hs ms vs ds → ArgsOk K Hs (.f a :: ms) (.ref a :: vs) (.none :: ds)
theorem ArgsOk.len {K : Fg} {Hs : Hp} : ∀ {m : List Md} {vs : List V} {ds : List D}, ArgsOk K Hs m vs ds → vs.length = m.length ∧ ds.length = m.length
  | _, _, _, .nil => ⟨rfl, rfl⟩
  | _, _, _, .p _ r => ⟨congrArg Nat.succ r.len.1, congrArg Nat.succ r.len.2⟩
  | _, _, _, .f r => ⟨congrArg Nat.succ r.len.1, congrArg Nat.succ r.len.2⟩
def spD (K : Fg) (mg : MG) (m : List Md) (F : List D → R) : Sp := fun vs H Q E => ∃ Hs ds, Same Hs H ∧ ArgsOk K Hs m vs ds ∧ match F ds with
  | .ok d fr _ => ∀ r Hs' H', Grow Hs H Hs' H' → RetOk K Hs' H' (fun p => H p = none) fr r d → Q r H'
  | .er e _ => ∀ cls od Hs' H', Grow Hs H Hs' H' → ErOk K mg e cls od Hs' H' → E cls od H'
  | .bad => False
/-- behind a def that has changed its own first argument at p -/
structure Aft (K : Fg) (Hs H Hs' H' : Hp) (p : Addr) (c : D) : Prop where
  s : Same Hs Hs'
  sub : Same Hs' H'
  new : ∀ a, Hs' a = none ∨ Hs a ≠ none ∨ (H a = none ∨ TupAt H a)
  keep : ∀ a o, H a = some o → a ≠ p → H' a = some o
  n : Hs' p = none
  c : Cont K Hs' H' p c
def spO (K : Fg) (mg : MG) (m : List Md) (F : D → List D → R) : Sp := fun vs H Q E => ∃ Hs p c vs' ds, vs = .ref p :: vs' ∧ Same Hs H ∧ Hs p = none ∧ Cont K Hs H p c ∧ ArgsOk K Hs m vs' ds ∧ match F c ds with
  | .ok d fr c' => ∀ r Hs' H', Aft K Hs H Hs' H' p c' → RetOk K Hs' H' (fun p => H p = none) fr r d → Q r H'
  | .er e c' => ∀ cls od Hs' H', Aft K Hs H Hs' H' p c' → ErOk K mg e cls od Hs' H' → E cls od H'
  | .bad => False
def slots0 : List Md → List D → En
  | .p :: ms, d :: ds => .val d :: slots0 ms ds
  | .f a :: ms, _ :: ds => .fn a :: slots0 ms ds
  | _, _ => []
def runD (m : List Md) (n : Nat) (body : SF) (ds : List D) : R := match body (slots0 m ds ++ List.replicate (n - m.length) .un) with
  | .nx _ => .ok .none false .none
  | .rt d fr _ => .ok d fr .none
  | .er e _ => .er e .none
  | _ => .bad
def out0 (ρ : En) (k : D → R) : R := match ρ with
  | .arg c :: _ => k c
  | _ => .bad
def runO (m : List Md) (n : Nat) (body : SF) (c : D) (ds : List D) : R := match body (.arg c :: slots0 m ds ++ List.replicate (n - (m.length + 1)) .un) with
  | .nx ρ => out0 ρ fun c' => .ok .none false c'
  | .rt d fr ρ => out0 ρ fun c' => .ok d fr c'
  | .er e ρ => out0 ρ fun c' => .er e c'
  | _ => .bad
theorem spD.imp {K : Fg} {mg : MG} {m : List Md} {F F' : List D → R} (h : ∀ ds, F' ds ≠ .bad → F ds = F' ds) : ∀ vs H Q E, spD K mg m F' vs H Q E → spD K mg m F vs H Q E := fun vs H Q E ⟨Hs, ds, s, a, q⟩ => by
  refine ⟨Hs, ds, s, a, ?_⟩
  rw [h ds (fun e => by rw [e] at q; exact q)]
  exact q
theorem spO.imp {K : Fg} {mg : MG} {m : List Md} {F F' : D → List D → R} (h : ∀ c ds, F' c ds ≠ .bad → F c ds = F' c ds) : ∀ vs H Q E, spO K mg m F' vs H Q E → spO K mg m F vs H Q E := fun vs H Q E ⟨Hs, p, c, vs', ds, e0, s, n, cn, a, q⟩ => by
  refine ⟨Hs, p, c, vs', ds, e0, s, n, cn, a, ?_⟩
  rw [h c ds (fun e => by rw [e] at q; exact q)]
  exact q

section
variable {P : Program} {w : World} {K : Fg} {mg : MG} {base : Heap}
theorem slots0_len : ∀ {m : List Md} {ds : List D}, ds.length = m.length → (slots0 m ds).length = m.length
  | [], [], _ => rfl
  | .p :: ms, d :: ds, h => congrArg Nat.succ (slots0_len (Nat.succ.inj h))
  | .f a :: ms, d :: ds, h => congrArg Nat.succ (slots0_len (Nat.succ.inj h))
  | [], _ :: _, h => by cases h
  | _ :: _, [], h => by cases h
theorem slots0_ok {Hs H : Hp} {B : Bs} : ∀ {m : List Md} {vs : List V} {ds : List D}, ArgsOk K Hs m vs ds → ∀ (i : Nat) (x : Option V) (s : Slot), (vs.map some)[i]? = some x → (slots0 m ds)[i]? = some s → SlotOk K B Hs H x s ∧ s.mut = false
  | _, _, _, .nil, i, _, _, a, _ => by simp at a
  | _, _, _, .p r t, 0, _, _, a, b => by
    simp [slots0] at a b
    subst a b
    exact ⟨⟨_, rfl, r⟩, rfl⟩
  | _, _, _, .f t, 0, _, _, a, b => by
    simp [slots0] at a b
    subst a b
    exact ⟨rfl, rfl⟩
  | _, _, _, .p r t, i + 1, _, _, a, b => slots0_ok t i _ _ (by simpa using a) (by simpa [slots0] using b)
  | _, _, _, .f t, i + 1, _, _, a, b => slots0_ok t i _ _ (by simpa using a) (by simpa [slots0] using b)
theorem app_get {α : Type} {xs ys : List α} {i : Nat} {x : α} (h : (xs ++ ys)[i]? = some x) : (i < xs.length ∧ xs[i]? = some x) ∨ (xs.length ≤ i ∧ ys[i - xs.length]? = some x) := by
  by_cases hi : i < xs.length
  · rw [List.getElem?_append_left hi] at h; exact .inl ⟨hi, h⟩
  · rw [List.getElem?_append_right (by omega)] at h; exact .inr ⟨by omega, h⟩
theorem sl_start {Hs H : Hp} {m : List Md} {vs : List V} {ds : List D} {N : List Str} (s : Same Hs H) (a : ArgsOk K Hs m vs ds) (hn : m.length ≤ N.length) :
    Sl K ⟨Hs, H, fun _ => False, fun _ => False, fun _ => False, fun _ => none⟩ Hs H (start N vs) (slots0 m ds ++ List.replicate (N.length - m.length) .un) := by
  obtain ⟨l1, l2⟩ := a.len
  have l3 := slots0_len l2
  have key : ∀ (i : Nat) (x : Option V) (t : Slot), (start N vs)[i]? = some x → (slots0 m ds ++ List.replicate (N.length - m.length) Slot.un)[i]? = some t → SlotOk K ⟨Hs, H, fun _ => False, fun _ => False, fun _ => False, fun _ => none⟩ Hs H x t ∧ t.mut = false := fun i x t a1 b1 => by
    unfold L2.start at a1
    rcases app_get b1 with ⟨h, b2⟩ | ⟨h, b2⟩
    · rcases app_get a1 with ⟨h', a2⟩ | ⟨h', a2⟩
      · exact slots0_ok a i x t a2 b2
      · rw [List.length_map] at h'
        omega
    · rw [List.getElem?_replicate] at b2
      split at b2
      · cases b2; exact ⟨trivial, rfl⟩
      · cases b2
  refine ⟨?_, fun i x t a1 b1 => (key i x t a1 b1).1, s, .refl _, fun b => ?_, fun b o e _ _ => e, fun _ z => z.elim (fun z => z.elim) (fun z => z.elim), fun _ => [], fun i x s a b => ?_, fun _ _ => rfl, fun _ _ _ _ m => by cases m⟩
  · unfold L2.start
    simp
    omega
  · cases e : Hs b with
    | none => exact .inl rfl
    | some o => exact .inr (.inl (by show Hs b ≠ none; rw [e]; simp))
  · have := (key i _ s a b).2
    cases s <;> first | (cases this; done) | rfl
theorem sl_startO {Hs H : Hp} {m : List Md} {vs : List V} {ds : List D} {N : List Str} {p : Addr} {c : D} (s : Same Hs H) (n : Hs p = none) (cn : Cont K Hs H p c) (a : ArgsOk K Hs m vs ds) (hn : m.length + 1 ≤ N.length) :
    Sl K ⟨Hs, H, fun a => a = p, fun _ => False, fun a => a = p, fun _ => none⟩ Hs H (start N (.ref p :: vs)) (.arg c :: slots0 m ds ++ List.replicate (N.length - (m.length + 1)) .un) := by
  obtain ⟨l1, l2⟩ := a.len
  have l3 := slots0_len l2
  have key : ∀ (i : Nat) (x : Option V) (t : Slot), (start N (.ref p :: vs))[i]? = some x → (.arg c :: slots0 m ds ++ List.replicate (N.length - (m.length + 1)) Slot.un)[i]? = some t → SlotOk K ⟨Hs, H, fun a => a = p, fun _ => False, fun a => a = p, fun _ => none⟩ Hs H x t ∧ (t.mut = true → i = 0) := fun i x t a1 b1 => by
    unfold L2.start at a1
    cases i with
    | zero =>
      simp at a1 b1
      subst a1 b1
      exact ⟨⟨p, rfl, n, ⟨rfl, .inr rfl⟩, cn⟩, fun _ => rfl⟩
    | succ i =>
      rw [List.map_cons, List.cons_append, List.getElem?_cons_succ] at a1
      rw [List.cons_append, List.getElem?_cons_succ] at b1
      rcases app_get b1 with ⟨h, b2⟩ | ⟨h, b2⟩
      · rcases app_get a1 with ⟨h', a2⟩ | ⟨h', a2⟩
        · have := slots0_ok (B := ⟨Hs, H, fun a => a = p, fun _ => False, fun a => a = p, fun _ => none⟩) (H := H) a i x t a2 b2
          exact ⟨this.1, fun z => by rw [this.2] at z; cases z⟩
        · rw [List.length_map] at h'
          omega
      · rw [List.getElem?_replicate] at b2
        split at b2
        · cases b2; exact ⟨trivial, fun z => by cases z⟩
        · cases b2
  refine ⟨?_, fun i x t a1 b1 => (key i x t a1 b1).1, s, .refl _, fun b => ?_, fun b o e _ _ => e, fun b z => ?_, fun i => if i = 0 then [p] else [], fun i x s a b => ?_, fun i a => ?_, fun i j hij a m m2 => ?_⟩
  · unfold L2.start
    simp
    omega
  · cases e : Hs b with
    | none => exact .inl rfl
    | some o => exact .inr (.inl (by show Hs b ≠ none; rw [e]; simp))
  · rcases z with z | z
    · have z : b = p := z
      subst z
      exact cn.there
    · exact z.elim
  · by_cases e : i = 0
    · subst e
      rw [if_pos rfl]
      unfold L2.start at a
      simp at a b
      subst a b
      exact ⟨p, rfl, rfl⟩
    · rw [if_neg e]
      have := (key i _ s a b).2
      cases s <;> first | rfl | exact absurd (this rfl) e
  · by_cases e : i = 0
    · subst e
      cases a
    · exact if_neg e
  · by_cases e : i = 0
    · by_cases e2 : j = 0
      · omega
      · rw [if_neg e2] at m2; cases m2
    · rw [if_neg e] at m; cases m
theorem nw_false {Hs H : Hp} {o r0 : Addr → Prop} {q0 : Pin} {a : Addr} (z : Bs.nw ⟨Hs, H, o, fun _ => False, r0, q0⟩ a) : H a = none := z.elim id fun z => z.elim
theorem RetOk.fin {Hs H Hs' H' : Hp} {o r0 : Addr → Prop} {q0 : Pin} {fr : Bool} {v : V} {d : D} (r : RetOk K Hs' H' (Bs.nw ⟨Hs, H, o, fun _ => False, r0, q0⟩) fr v d) : RetOk K Hs' H' (fun p => H p = none) fr v d := by
  cases fr with
  | false => exact r
  | true =>
    obtain ⟨p, e, n, z, c⟩ := r
    exact ⟨p, e, n, nw_false z, c⟩
theorem tup_back {H H' : Hp} {a : Addr} (t : TupAt H' a) (k : ∀ o, H a = some o → H' a = some o) : H a = none ∨ TupAt H a := by
  obtain ⟨xs, e⟩ := t
  cases q : H a with
  | none => exact .inl rfl
  | some o => exact .inr ⟨xs, q.trans ((k o q).symm.trans e)⟩
theorem Sl.growth {Hs H Hs' H' : Hp} {σ : L2.St} {ρ : En} (sl : Sl K ⟨Hs, H, fun _ => False, fun _ => False, fun _ => False, fun _ => none⟩ Hs' H' σ ρ) : Grow Hs H Hs' H' := ⟨sl.base, fun a o e => sl.keep a o e (fun z => z) (fun z => z), sl.sub, fun a => (sl.new a).imp id (fun z => z.imp id fun z => z.elim (fun z => .inl (nw_false z)) fun t => tup_back t fun o e => sl.keep a o e (fun z => z) (fun z => z))⟩
theorem Sl.aft {Hs H Hs' H' : Hp} {σ : L2.St} {r : En} {p : Addr} {c : D} (hH : ∃ o, H p = some o) (sl : Sl K ⟨Hs, H, fun a => a = p, fun _ => False, fun a => a = p, fun _ => none⟩ Hs' H' σ (.arg c :: r)) : Aft K Hs H Hs' H' p c := by
  obtain ⟨x, ex⟩ := sl_var (i := 0) (s := .arg c) sl rfl
  obtain ⟨q, e1, n, w, cn⟩ := sl.ok 0 _ _ ex rfl
  have w : q = p := w.1
  subst w
  exact ⟨sl.base, sl.sub, fun a => (sl.new a).imp id (fun z => z.imp id fun z => z.elim (fun z => .inl (nw_false z)) fun t => tup_back t fun o e => sl.keep a o e (fun z => cn.own.notup (by rw [← z]; exact t)) (fun z => z)), fun a o e ne => sl.keep a o e ne (fun z => z), n, cn⟩
/-- THE RULE for a def: its body as a term of rules -/
theorem defD {x qual : Str} {st : Stmt} {dvs : List V} {kws : List (Str × V)} {f : Addr} {fd : FuncData} {N ps : List Str} {k : Nat} {body : SF} (F : FunD K x qual (defArgs st) (defBody st) (defScope st) dvs kws f fd) (S : FnScope N ps (defScope st)) (m : List Md) (hm : m.length = ps.length)
    (der : ∀ (cdv : Value) (A : Around) (outer : List Env) (s : Shared) (H : Hp) (E : XK) (B : Bs) (W : WX), Room k (A.deeper (envOfC qual (defScope st) s.heap.objs.size f cdv)) → L2N.Takes (cxOf (L2N.CX P w) P w K mg base N qual (defScope st) f cdv A outer s H E) W →
      PSsD (cxOf (L2N.CX P w) P w K mg base N qual (defScope st) f cdv A outer s H E) B W (defBody st) body) : FnOk P w K mg base (L2N.CX P w) (k + 1) f fd ps (spD K mg m (runD m N.length body)) := by
  have hn : m.length ≤ N.length := by
    have h := congrArg List.length S.pre
    rw [List.length_take] at h
    omega
  refine F.ok S (fun vs H Q E h => ?_) (fun cdv A outer s H vs Q E hr h => ?_)
  · obtain ⟨Hs, ds, _, a, _⟩ := h
    rw [a.len.1, hm]
  · obtain ⟨Hs, ds, sm, a, q⟩ := h
    refine ⟨_, der cdv A outer s H E ⟨Hs, H, fun _ => False, fun _ => False, fun _ => False, fun _ => none⟩ (fun cls d _ H' => E cls d H') hr (L2N.takes_of rfl rfl rfl rfl), Hs, _, sl_start sm a hn, ?_⟩
    unfold runD at q
    show SQ K mg _ _ _ _ _
    cases e : body (slots0 m ds ++ List.replicate (N.length - m.length) .un) with
    | nx r => rw [e] at q; exact fun σ' Hs' H' sl _ => q _ _ _ sl.growth .non
    | rt d fr r => rw [e] at q; exact fun σ' Hs' H' v sl _ ro => q _ _ _ sl.growth ro.fin
    | er z r => rw [e] at q; exact fun cls od σ' Hs' H' sl _ eo => q cls od Hs' H' sl.growth eo
    | bk r => rw [e] at q; exact q.elim
    | ct r => rw [e] at q; exact q.elim
    | bad => rw [e] at q; exact q.elim
theorem defO {x qual : Str} {st : Stmt} {dvs : List V} {kws : List (Str × V)} {f : Addr} {fd : FuncData} {N ps : List Str} {k : Nat} {body : SF} (F : FunD K x qual (defArgs st) (defBody st) (defScope st) dvs kws f fd) (S : FnScope N ps (defScope st)) (m : List Md) (hm : m.length + 1 = ps.length)
    (der : ∀ (cdv : Value) (A : Around) (outer : List Env) (s : Shared) (H : Hp) (E : XK) (B : Bs) (W : WX), Room k (A.deeper (envOfC qual (defScope st) s.heap.objs.size f cdv)) → L2N.Takes (cxOf (L2N.CX P w) P w K mg base N qual (defScope st) f cdv A outer s H E) W →
      PSsD (cxOf (L2N.CX P w) P w K mg base N qual (defScope st) f cdv A outer s H E) B W (defBody st) body) : FnOk P w K mg base (L2N.CX P w) (k + 1) f fd ps (spO K mg m (runO m N.length body)) := by
  have hn : m.length + 1 ≤ N.length := by
    have h := congrArg List.length S.pre
    rw [List.length_take] at h
    omega
  refine F.ok S (fun vs H Q E h => ?_) (fun cdv A outer s H vs Q E hr h => ?_)
  · obtain ⟨Hs, p, c, vs', ds, rfl, _, _, _, a, _⟩ := h
    rw [List.length_cons, a.len.1, hm]
  · obtain ⟨Hs, p, c, vs', ds, rfl, sm, n, cn, a, q⟩ := h
    have hH := cn.there
    refine ⟨_, der cdv A outer s H E ⟨Hs, H, fun a => a = p, fun _ => False, fun a => a = p, fun _ => none⟩ (fun cls d _ H' => E cls d H') hr (L2N.takes_of rfl rfl rfl rfl), Hs, _, sl_startO sm n cn a hn, ?_⟩
    unfold runO at q
    show SQ K mg _ _ _ _ _
    have split : ∀ {r : En} {kk : D → R}, (∀ c' r', r = .arg c' :: r' → out0 r kk = kk c') ∧ (out0 r kk = .bad ∨ ∃ c' r', r = .arg c' :: r') := fun {r kk} => by
      refine ⟨fun c' r' e => by rw [e]; rfl, ?_⟩
      cases r with
      | nil => exact .inl rfl
      | cons s r' => cases s <;> first | exact .inl rfl | exact .inr ⟨_, _, rfl⟩
    cases e : body (.arg c :: slots0 m ds ++ List.replicate (N.length - (m.length + 1)) .un) with
    | nx r =>
      rw [e] at q
      dsimp only at q
      rcases (split (r := r) (kk := fun c' => R.ok .none false c')).2 with z | ⟨c', r', rfl⟩
      · rw [z] at q; exact q.elim
      · exact fun σ' Hs' H' sl _ => q _ _ _ (sl.aft hH) .non
    | rt d fr r =>
      rw [e] at q
      dsimp only at q
      rcases (split (r := r) (kk := fun c' => R.ok d fr c')).2 with z | ⟨c', r', rfl⟩
      · rw [z] at q; exact q.elim
      · exact fun σ' Hs' H' v sl _ ro => q _ _ _ (sl.aft hH) ro.fin
    | er z r =>
      rw [e] at q
      dsimp only at q
      rcases (split (r := r) (kk := fun c' => R.er z c')).2 with y | ⟨c', r', rfl⟩
      · rw [y] at q; exact q.elim
      · exact fun cls od σ' Hs' H' sl _ eo => q cls od Hs' H' (sl.aft hH) eo
    | bk r => rw [e] at q; exact q.elim
    | ct r => rw [e] at q; exact q.elim
    | bad => rw [e] at q; exact q.elim
end

/-! ### calls -/
def argD : List Md → List Vl → Option (List D)
  | [], [] => some []
  | .p :: ms, .st d :: xs => (argD ms xs).map (d :: ·)
  | .f a :: ms, .fn b :: xs => if a = b then (argD ms xs).map (.none :: ·) else none
  | _, _ => none
/-- .. own objects lent -/
def argB : List Md → List Vl → En → Option (List D)
  | [], [], _ => some []
  | .p :: ms, x :: xs, ρ => (x.get ρ).bind fun d => (argB ms xs ρ).map (d :: ·)
  | .f a :: ms, .fn b :: xs, ρ => if a = b then (argB ms xs ρ).map (.none :: ·) else none
  | _, _, _ => none
def R.toO (r : R) (ρ : En) : O D := match r with
  | .ok d _ _ => .ok d ρ
  | .er e _ => .er e ρ
  | .bad => .bad
/-- f(args) -/
def callF (m : List Md) (F : List D → R) (dd : List D) (fa : AF) : EF := fun ρ => (fa ρ).bind fun xs ρ1 => match argD m (xs ++ dd.map Vl.st) with
  | some ds => (match F ds with
    | .ok d _ _ => .ok (.st d) ρ1
    | .er e _ => .er e ρ1
    | .bad => .bad)
  | none => .bad
/-- .. its answer a new object -/
def callC (m : List Md) (F : List D → R) (dd : List D) (fa : AF) : CF := fun ρ => (fa ρ).bind fun xs ρ1 => match argD m (xs ++ dd.map Vl.st) with
  | some ds => (match F ds with
    | .ok d true _ => .ok d ρ1
    | .er e _ => .er e ρ1
    | _ => .bad)
  | none => .bad
def flat : D → Bool
  | .none => true
  | .bool _ => true
  | .int _ => true
  | .str _ => true
  | _ => false
/-- .. own objects lent, the answer flat -/
def callB (m : List Md) (F : List D → R) (dd : List D) (fa : AF) : EF := fun ρ => (fa ρ).bind fun xs ρ1 => match argB m (xs ++ dd.map Vl.st) ρ1 with
  | some ds => (match F ds with
    | .ok d _ _ => if flat d = true then .ok (.st d) ρ1 else .bad
    | .er e _ => if e.fs.isEmpty = true then .er e ρ1 else .bad
    | .bad => .bad)
  | none => .bad
/-- .. its first argument an own object that it changes -/
def callO (m : List Md) (F : D → List D → R) (dd : List D) (fa : AF) : EF := fun ρ => (fa ρ).bind fun xs ρ1 => match xs with
  | .at i :: xs' => (match ρ1[i]? with
    | some s => (match s.cont, argD m (xs' ++ dd.map Vl.st) with
      | some c, some ds => (match F c ds with
        | .ok d _ c' => .ok (.st d) (ρ1.set i (s.put c'))
        | .er e c' => .er e (ρ1.set i (s.put c'))
        | .bad => .bad)
      | _, _ => .bad)
    | none => .bad)
  | _ => .bad
def callOC (m : List Md) (F : D → List D → R) (dd : List D) (fa : AF) : CF := fun ρ => (fa ρ).bind fun xs ρ1 => match xs with
  | .at i :: xs' => (match ρ1[i]? with
    | some s => (match s.cont, argD m (xs' ++ dd.map Vl.st) with
      | some c, some ds => (match F c ds with
        | .ok d true c' => .ok d (ρ1.set i (s.put c'))
        | .er e c' => .er e (ρ1.set i (s.put c'))
        | _ => .bad)
      | _, _ => .bad)
    | none => .bad)
  | _ => .bad
section
variable {K : Fg} {mg : MG} {B : Bs} {W : WX} {σ : L2.St} {Hs H : Hp} {ρ : En}
theorem VlsOk.app : ∀ {vs : List V} {xs : List Vl} {ws : List V} {ds : List D}, VlsOk K Hs σ vs xs → RepA K Hs ws ds → VlsOk K Hs σ (vs ++ ws) (xs ++ ds.map Vl.st)
  | _, _, _, _, .nil, .nil => .nil
  | _, _, _, _, .nil, .cons a b => .cons a (VlsOk.app .nil b)
  | _, _, _, _, .cons a b, r => .cons a (VlsOk.app b r)
theorem VlsOk.at_inv {vs : List V} {i : Nat} {xs : List Vl} (h : VlsOk K Hs σ vs (.at i :: xs)) : ∃ v vs', vs = v :: vs' ∧ σ[i]? = some (some v) ∧ VlsOk K Hs σ vs' xs := by
  cases h with
  | cons a b => exact ⟨_, _, rfl, a, b⟩
theorem argD_ok : ∀ {m : List Md} {vs : List V} {xs : List Vl} {ds : List D}, VlsOk K Hs σ vs xs → argD m xs = some ds → ArgsOk K Hs m vs ds
  | [], _, [], _, .nil, h => by cases h; exact .nil
  | .p :: ms, _, .st d :: xs, _, .cons a b, h => by
    cases e : argD ms xs with
    | none => simp only [argD, e, Option.map_none] at h; cases h
    | some es =>
      simp only [argD, e, Option.map_some, Option.some.injEq] at h
      subst h
      exact .p a (argD_ok b e)
  | .f z :: ms, _, .fn y :: xs, _, .cons a b, h => by
    unfold argD at h
    by_cases c : z = y
    · rw [if_pos c] at h
      subst c
      cases e : argD ms xs with
      | none => rw [e] at h; cases h
      | some es =>
        rw [e] at h
        cases h
        cases a
        exact .f (argD_ok b e)
    · rw [if_neg c] at h; cases h
  | [], _, _ :: _, _, .cons _ _, h => by cases h
  | .p :: ms, _, [], _, .nil, h => by cases h
  | .f _ :: ms, _, [], _, .nil, h => by cases h
  | .p :: ms, _, .at _ :: xs, _, .cons a b, h => by cases h
  | .p :: ms, _, .fn _ :: xs, _, .cons a b, h => by cases h
  | .f _ :: ms, _, .at _ :: xs, _, .cons a b, h => by cases h
  | .f _ :: ms, _, .st _ :: xs, _, .cons a b, h => by cases h
theorem argB_ok (sl : Sl K B Hs H σ ρ) : ∀ {m : List Md} {vs : List V} {xs : List Vl} {ds : List D}, VlsOk K Hs σ vs xs → argB m xs ρ = some ds → ArgsOk K H m vs ds
  | [], _, [], _, .nil, h => by cases h; exact .nil
  | .p :: ms, _, x :: xs, _, .cons a b, h => by
    unfold argB at h
    cases ex : x.get ρ with
    | none => rw [ex] at h; cases h
    | some d =>
      rw [ex, Option.bind_some] at h
      cases e : argB ms xs ρ with
      | none => rw [e] at h; cases h
      | some es =>
        rw [e] at h
        cases h
        exact .p ((sl.look a ex).rep sl.sub) (argB_ok sl b e)
  | .f z :: ms, _, .fn y :: xs, _, .cons a b, h => by
    unfold argB at h
    by_cases c : z = y
    · rw [if_pos c] at h
      subst c
      cases e : argB ms xs ρ with
      | none => rw [e] at h; cases h
      | some es =>
        rw [e] at h
        cases h
        cases a
        exact .f (argB_ok sl b e)
    · rw [if_neg c] at h; cases h
  | [], _, _ :: _, _, .cons _ _, h => by cases h
  | .p :: ms, _, [], _, .nil, h => by cases h
  | .f _ :: ms, _, [], _, .nil, h => by cases h
  | .f _ :: ms, _, .at _ :: xs, _, .cons a b, h => by cases h
  | .f _ :: ms, _, .st _ :: xs, _, .cons a b, h => by cases h
theorem Rep.flat {Hs' : Hp} {v : V} {d : D} (r : Rep K Hs v d) (f : flat d = true) : Rep K Hs' v d := by
  cases r <;> first | (cases f; done) | skip
  · exact .non
  · exact .bl _
  · exact .int _
  · exact .str _
theorem ErOk.plain {e : Er} {cls : Value} {od : Option Addr} {Hs' H' : Hp} (h : ErOk K mg e cls od Hs H) (f : e.fs.isEmpty = true) : ErOk K mg e cls od Hs' H' := ⟨h.1, h.2.elim .inl fun z => absurd (List.isEmpty_iff.mp f) z.1⟩
end
section
variable {X : Cx} {B : Bs} {W : WX} {k : Nat} {f : Addr} {fd : FuncData} {ps : List Str} {m : List Md} {F : List D → R} {FO : D → List D → R} {dvs : List V} {dd : List D} {ds : List Value} {x : Str} {p pos : Pos} {e : Expr} {es : List Expr} {fa : AF}
theorem pd_call (G : FnOk X.prog X.w X.K X.mg X.base (L2N.CX X.prog X.w) k f fd ps (spD X.K X.mg m F)) (tk : L2N.Takes X W) (hr : Room k X.A) (hg : Gl X x) (hm : X.mg x = some (.ref f)) (hk : PySem.W.keepIn X.K (.ref f) = true) (hb : Binds X.K fd ps ds) (hd : Vals dvs ds) (hdd : ∀ H, RepA X.K H dvs dd)
    (ha : PAD X B W (e :: es) fa) (hdb : (x == ("__debug__" : Str)) = false := by decide) (he : starEach (e :: es) X.env = (false, eval e X.env) :: starEach es X.env := by rfl) (hpl : (backTo pos (starEach es X.env)).any (·.1) = false := by rfl) :
    PD X B W (.Call (.Name x p) (e :: es) [] pos) (callF m F dd fa) := PE.imp (pe_callSD (E := WE W) G hr hg hm hk hb hd (fun σ => L2N.passAt tk σ) ha hdb he hpl) fun σ H Q ⟨Hs, ρ, sl, q⟩ => by
  refine ⟨Hs, ρ, sl, OP.imp (OP.bind q) fun xs ρ1 Hs1 H1 _ sl1 e1 q1 vs hvs => ?_⟩
  cases ea : argD m (xs ++ dd.map Vl.st) with
  | none => rw [ea] at q1; exact q1.elim
  | some es =>
    rw [ea] at q1
    refine ⟨Hs1, es, sl1.sub, argD_ok (hvs.app (hdd Hs1)) ea, ?_⟩
    dsimp only at q1
    cases eF : F es with
    | bad => rw [eF] at q1; exact q1.elim
    | er z c => rw [eF] at q1; exact fun cls od Hs' H' g eo => q1 cls od Hs' H' (sl1.grow g) g.s eo
    | ok d fr c =>
      rw [eF] at q1
      intro r Hs' H' g ro
      have sl2 := sl1.grow g
      cases fr with
      | false => exact q1 Hs' H' sl2 g.s r ro
      | true =>
        obtain ⟨pp, rfl, n, n0, cn⟩ := ro
        obtain ⟨o, eo⟩ := cn.there
        obtain ⟨f1, f2, f3⟩ := sl1.fresh n0
        exact q1 _ H' (sl2.take eo n f2 (f3.grow sl1 g)) (g.s.trans (same_upd n)) _ (cn.frozen eo n)
theorem pc_call (G : FnOk X.prog X.w X.K X.mg X.base (L2N.CX X.prog X.w) k f fd ps (spD X.K X.mg m F)) (tk : L2N.Takes X W) (hr : Room k X.A) (hg : Gl X x) (hm : X.mg x = some (.ref f)) (hk : PySem.W.keepIn X.K (.ref f) = true) (hb : Binds X.K fd ps ds) (hd : Vals dvs ds) (hdd : ∀ H, RepA X.K H dvs dd)
    (ha : PAD X B W (e :: es) fa) (hdb : (x == ("__debug__" : Str)) = false := by decide) (he : starEach (e :: es) X.env = (false, eval e X.env) :: starEach es X.env := by rfl) (hpl : (backTo pos (starEach es X.env)).any (·.1) = false := by rfl) :
    PC' X B W (.Call (.Name x p) (e :: es) [] pos) (callC m F dd fa) := PE.imp (pe_callSD (E := WE W) G hr hg hm hk hb hd (fun σ => L2N.passAt tk σ) ha hdb he hpl) fun σ H Q ⟨Hs, ρ, sl, q⟩ => by
  refine ⟨Hs, ρ, sl, OP.imp (OP.bind q) fun xs ρ1 Hs1 H1 _ sl1 e1 q1 vs hvs => ?_⟩
  cases ea : argD m (xs ++ dd.map Vl.st) with
  | none => rw [ea] at q1; exact q1.elim
  | some es =>
    rw [ea] at q1
    refine ⟨Hs1, es, sl1.sub, argD_ok (hvs.app (hdd Hs1)) ea, ?_⟩
    dsimp only at q1
    cases eF : F es with
    | bad => rw [eF] at q1; exact q1.elim
    | er z c => rw [eF] at q1; exact fun cls od Hs' H' g eo => q1 cls od Hs' H' (sl1.grow g) g.s eo
    | ok d fr c =>
      rw [eF] at q1
      cases fr with
      | false => exact q1.elim
      | true =>
        intro r Hs' H' g ro
        obtain ⟨pp, rfl, n, n0, cn⟩ := ro
        obtain ⟨f1, f2, f3⟩ := sl1.fresh n0
        exact q1 Hs' H' (sl1.grow g) g.s pp n f2 (f3.grow sl1 g) cn
theorem pd_callB (G : FnOk X.prog X.w X.K X.mg X.base (L2N.CX X.prog X.w) k f fd ps (spD X.K X.mg m F)) (tk : L2N.Takes X W) (hr : Room k X.A) (hg : Gl X x) (hm : X.mg x = some (.ref f)) (hk : PySem.W.keepIn X.K (.ref f) = true) (hb : Binds X.K fd ps ds) (hd : Vals dvs ds) (hdd : ∀ H, RepA X.K H dvs dd)
    (ha : PAD X B W (e :: es) fa) (hdb : (x == ("__debug__" : Str)) = false := by decide) (he : starEach (e :: es) X.env = (false, eval e X.env) :: starEach es X.env := by rfl) (hpl : (backTo pos (starEach es X.env)).any (·.1) = false := by rfl) :
    PD X B W (.Call (.Name x p) (e :: es) [] pos) (callB m F dd fa) := PE.imp (pe_callSD (E := WE W) G hr hg hm hk hb hd (fun σ => L2N.passAt tk σ) ha hdb he hpl) fun σ H Q ⟨Hs, ρ, sl, q⟩ => by
  refine ⟨Hs, ρ, sl, OP.imp (OP.bind q) fun xs ρ1 Hs1 H1 _ sl1 e1 q1 vs hvs => ?_⟩
  cases ea : argB m (xs ++ dd.map Vl.st) ρ1 with
  | none => rw [ea] at q1; exact q1.elim
  | some es =>
    rw [ea] at q1
    refine ⟨H1, es, .refl _, argB_ok sl1 (hvs.app (hdd Hs1)) ea, ?_⟩
    dsimp only at q1
    have back : ∀ {Hs' H'}, Grow H1 H1 Hs' H' → Grow Hs1 H1 Hs1 H' := fun {Hs' H'} g => ⟨.refl _, g.h, sl1.sub.trans g.h, (Grow.refl sl1.sub).new⟩
    cases eF : F es with
    | bad => rw [eF] at q1; exact q1.elim
    | er z c =>
      rw [eF] at q1
      dsimp only at q1
      by_cases c : z.fs.isEmpty = true
      · rw [if_pos c] at q1
        exact fun cls od Hs' H' g eo => q1 cls od Hs1 H' (sl1.grow (back g)) (.refl _) (eo.plain c)
      · rw [if_neg c] at q1; exact q1.elim
    | ok d fr c =>
      rw [eF] at q1
      dsimp only at q1
      by_cases c : flat d = true
      · rw [if_pos c] at q1
        intro r Hs' H' g ro
        cases fr with
        | false => exact q1 Hs1 H' (sl1.grow (back g)) (.refl _) r (Rep.flat ro c)
        | true =>
          obtain ⟨pp, rfl, n, n0, cn⟩ := ro
          cases d <;> first | (cases c; done) | exact cn.elim
      · rw [if_neg c] at q1; exact q1.elim
theorem callO_write {Hs H Hs' H' : Hp} {σ : L2.St} {ρ : En} {i : Nat} {s : Slot} {c c' : D} {p : Addr} (sl : Sl X.K B Hs H σ ρ) (es : ρ[i]? = some s) (ec : s.cont = some c) (hp : σ[i]? = some (some (.ref p))) (a : Aft X.K Hs H Hs' H' p c') : Sl X.K B Hs' H' σ (ρ.set i (s.put c')) :=
  sl.write es ec hp a.s a.sub a.new a.keep a.n a.c
theorem pd_callO (G : FnOk X.prog X.w X.K X.mg X.base (L2N.CX X.prog X.w) k f fd ps (spO X.K X.mg m FO)) (tk : L2N.Takes X W) (hr : Room k X.A) (hg : Gl X x) (hm : X.mg x = some (.ref f)) (hk : PySem.W.keepIn X.K (.ref f) = true) (hb : Binds X.K fd ps ds) (hd : Vals dvs ds) (hdd : ∀ H, RepA X.K H dvs dd)
    (ha : PAD X B W (e :: es) fa) (hdb : (x == ("__debug__" : Str)) = false := by decide) (he : starEach (e :: es) X.env = (false, eval e X.env) :: starEach es X.env := by rfl) (hpl : (backTo pos (starEach es X.env)).any (·.1) = false := by rfl) :
    PD X B W (.Call (.Name x p) (e :: es) [] pos) (callO m FO dd fa) := PE.imp (pe_callSD (E := WE W) G hr hg hm hk hb hd (fun σ => L2N.passAt tk σ) ha hdb he hpl) fun σ H Q ⟨Hs, ρ, sl, q⟩ => by
  refine ⟨Hs, ρ, sl, OP.imp (OP.bind q) fun xs ρ1 Hs1 H1 _ sl1 e1 q1 vs hvs => ?_⟩
  cases xs with
  | nil => exact q1.elim
  | cons xx xs' =>
    cases xx with
    | st d => exact q1.elim
    | fn a => exact q1.elim
    | «at» i =>
    obtain ⟨v, vs', rfl, hv, hvr⟩ := VlsOk.at_inv hvs
    dsimp only at q1
    cases ei : ρ1[i]? with
    | none => rw [ei] at q1; exact q1.elim
    | some s =>
      rw [ei] at q1
      dsimp only at q1
      cases ec : s.cont with
      | none => rw [ec] at q1; exact q1.elim
      | some c =>
        cases ea : argD m (xs' ++ dd.map Vl.st) with
        | none => rw [ec, ea] at q1; exact q1.elim
        | some es =>
          rw [ec, ea] at q1
          dsimp only at q1
          obtain ⟨pp, ep, n, cn, _⟩ := own_at sl1 ei ec
          rw [ep] at hv
          cases hv
          refine ⟨Hs1, pp, c, vs' ++ dvs, es, rfl, sl1.sub, n, cn, argD_ok (hvr.app (hdd Hs1)) ea, ?_⟩
          cases eF : FO c es with
          | bad => rw [eF] at q1; exact q1.elim
          | er z c' => rw [eF] at q1; exact fun cls od Hs' H' g eo => q1 cls od Hs' H' (callO_write sl1 ei ec ep g) g.s eo
          | ok d fr c' =>
            rw [eF] at q1
            intro r Hs' H' g ro
            have sl2 := callO_write sl1 ei ec ep g
            cases fr with
            | false => exact q1 Hs' H' sl2 g.s r ro
            | true =>
              obtain ⟨p2, rfl, n2, n0, cn2⟩ := ro
              obtain ⟨o, eo⟩ := cn2.there
              obtain ⟨f1, f2, f3⟩ := sl1.fresh n0
              obtain ⟨F, fe, nF⟩ := f3
              have f4 : Nob X.K B Hs' H' σ (ρ1.set i (s.put c')) p2 := ⟨F, (sl1.write0 ei ec ep g.s g.sub g.new g.keep g.n g.c).2 F fe, nF⟩
              exact q1 _ H' (sl2.take eo n2 f2 f4) (g.s.trans (same_upd n2)) _ (cn2.frozen eo n2)
end
end DL

/-! DL8 -/
namespace DL
open PySem PySem.Spec PyProof.Rows L2

/-! ### targets -/
/-- where a datum goes: slots and data -/
inductive Tg where
  | nm (i : Nat)
  | tp (ts : List Tg)
mutual
def Tg.put : Tg → D → En → Option En
  | .nm i, d, ρ => some (ρ.set i (.val d))
  | .tp ts, .tuple ds, ρ => Tg.puts ts ds ρ
  | .tp _, _, _ => none
def Tg.puts : List Tg → List D → En → Option En
  | [], [], ρ => some ρ
  | t :: ts, d :: ds, ρ => (Tg.put t d ρ).bind fun ρ1 => Tg.puts ts ds ρ1
  | _, _, _ => none
end
mutual
def Tg.at : Tg → List Nat
  | .nm i => [i]
  | .tp ts => Tg.ats ts
def Tg.ats : List Tg → List Nat
  | [] => []
  | t :: ts => Tg.at t ++ Tg.ats ts
end
/-- slots other than these are as they were -/
def Out (vs : List Nat) (σ σ' : L2.St) : Prop := σ'.length = σ.length ∧ ∀ i, i ∉ vs → σ'[i]? = σ[i]?
theorem Out.refl (vs : List Nat) (σ : L2.St) : Out vs σ σ := ⟨rfl, fun _ _ => rfl⟩
theorem Out.trans {vs ws : List Nat} {σ σ1 σ2 : L2.St} (a : Out vs σ σ1) (b : Out ws σ1 σ2) : Out (vs ++ ws) σ σ2 := ⟨b.1.trans a.1, fun i hi => by
  rw [List.mem_append] at hi
  rw [b.2 i (fun z => hi (.inr z)), a.2 i (fun z => hi (.inl z))]⟩
def gD (K : Fg) (B : Bs) (t : Tg) : TG := fun v σ H Q => ∃ Hs ρ d ρ', Sl K B Hs H σ ρ ∧ Rep K Hs v d ∧ Tg.put t d ρ = some ρ' ∧ ∀ σ', Sl K B Hs H σ' ρ' → Out t.at σ σ' → Q σ' H
def gsD (K : Fg) (B : Bs) (t : List Tg) : TGs := fun vs σ H Q => ∃ Hs ρ ds ρ', Sl K B Hs H σ ρ ∧ RepA K Hs vs ds ∧ Tg.puts t ds ρ = some ρ' ∧ ∀ σ', Sl K B Hs H σ' ρ' → Out (Tg.ats t) σ σ' → Q σ' H
theorem PG.imp {X : Cx} {e : Expr} {t t' : TG} (h : PG X e t) (i : ∀ v σ H Q, t' v σ H Q → t v σ H Q) : PG X e t' := ⟨fun pins s σ H v u Q I r q => h.run pins s σ H v u Q I r (i v σ H Q q)⟩
theorem PGs.imp {X : Cx} {e : List Expr} {t t' : TGs} (h : PGs X e t) (i : ∀ (v : List V) σ H Q, t' v σ H Q → t v σ H Q) : PGs X e t' := ⟨fun pins s σ H v u Q I r q => h.run pins s σ H v u Q I r (i v σ H Q q)⟩
section
variable {X : Cx} {B : Bs} {e : Expr} {es : List Expr} {t : Tg} {ts : List Tg} {pos : Pos} {x : Str}
theorem pgd_nm {i : Nat} (hN : X.N.Nodup) (hi : X.N[i]? = some x) (hx : Loc X.env.scope x) (hf : X.fn x = true ∨ X.env.scope.names.lookup x = some .local := by first | exact .inl rfl | exact .inr rfl | assumption) : PG X (.Name x pos) (gD X.K B (.nm i)) :=
  PG.imp (pg_name hN hi hx hf) fun v σ H Q ⟨Hs, ρ, d, ρ', sl, r, h, q⟩ => by
  simp only [Tg.put, Option.some.injEq] at h
  subst h
  refine q _ (sl.store ⟨v, rfl, r⟩ fun z => by cases z) ⟨by rw [List.length_set], fun j hj => ?_⟩
  rw [List.getElem?_set_ne]
  simp only [Tg.at, List.mem_singleton] at hj
  exact fun z => hj z.symm
theorem pgsd_nil : PGs X [] (gsD X.K B []) := PGs.imp pgs_nil fun vs σ H Q ⟨Hs, ρ, ds, ρ', sl, r, h, q⟩ => by
  cases r with
  | nil =>
    simp only [Tg.puts, Option.some.injEq] at h
    subst h
    exact ⟨rfl, q σ sl (.refl _ _)⟩
  | cons a b => cases h
theorem pgsd_cons (h1 : PG X e (gD X.K B t)) (h2 : PGs X es (gsD X.K B ts)) (hs : (assignEach (e :: es) X.env).map (·.2) = assign e X.env :: (assignEach es X.env).map (·.2) := by rfl) : PGs X (e :: es) (gsD X.K B (t :: ts)) :=
  PGs.imp (pgs_cons h1 h2 hs) fun vs σ H Q ⟨Hs, ρ, ds, ρ', sl, r, h, q⟩ => by
  cases r with
  | nil => cases h
  | @cons v vr d dr a b =>
    unfold Tg.puts at h
    cases e1 : Tg.put t d ρ with
    | none => rw [e1] at h; cases h
    | some ρ1 =>
      rw [e1, Option.bind_some] at h
      refine ⟨v, vr, rfl, Hs, ρ, d, ρ1, sl, a, e1, fun σ1 sl1 o1 => ⟨Hs, ρ1, dr, ρ', sl1, b, h, fun σ2 sl2 o2 => q σ2 sl2 (o1.trans o2)⟩⟩
theorem pgd_tp {k : Nat} {n : Nat} (hc : X.calm = true) (h : PGs X es (gsD X.K B ts)) (ht : ts.length = n) (hn : (assignEach es X.env).length = n := by rfl) (hst : (assignEach es X.env).findIdx? (·.1) = none := by rfl) : PG X (.Tuple es k pos) (gD X.K B (.tp ts)) :=
  PG.imp (pg_tup hc h hn hst) fun v σ H Q ⟨Hs, ρ, d, ρ', sl, r, hp, q⟩ => by
  cases d <;> first | (cases hp; done) | skip
  rename_i ds
  unfold Tg.put at hp
  obtain ⟨p, vs, e1, s, ra⟩ := Shal.tup (.inl r) sl.sub
  have len : ∀ {ts : List Tg} {ds : List D} {ρ ρ' : En}, Tg.puts ts ds ρ = some ρ' → ds.length = ts.length := by
    intro ts
    induction ts with
    | nil => intro ds ρ ρ' h; cases ds <;> first | rfl | cases h
    | cons t ts ih =>
      intro ds ρ ρ' h
      cases ds with
      | nil => cases h
      | cons d ds =>
        unfold Tg.puts at h
        cases e1 : Tg.put t d ρ with
        | none => rw [e1] at h; cases h
        | some ρ1 =>
          rw [e1, Option.bind_some] at h
          exact congrArg Nat.succ (ih h)
  exact ⟨p, vs, e1, s, by rw [ra.length, len hp, ht], Hs, ρ, ds, ρ', sl, ra, hp, q⟩
/-- a, b = e -/
def asgT (t : Tg) (f : EF) : SF := fun ρ => (f ρ).then fun x ρ1 => match x with
  | .st d => (match Tg.put t d ρ1 with
    | some ρ2 => .nx ρ2
    | none => .bad)
  | _ => .bad
theorem psd_asgT {W : WX} {fa : EF} {tg : Expr} (he : PD X B W e fa) (hg : PG X tg (gD X.K B t)) (hs : swapsWithSole [tg] e pos.line X.env = pure false := by rfl) (hw : swappedStores [tg] e X.env = pure none := by rfl)
    (h1 : (assignEach [tg] X.env).map (·.2) = [assign tg X.env] := by rfl) : PSD X B W (.Assign [tg] e pos) (asgT t fa) := PS.imp (ps_asg he hg hs hw h1) fun D' σ H ⟨Hs, ρ, sl, q⟩ => by
  refine ⟨Hs, ρ, sl, OP.imp (OP.stm q) fun x ρ1 Hs1 H1 _ sl1 e1 q1 v hv => ?_⟩
  cases x <;> first | exact q1.elim | skip
  rename_i d ed
  clear ed
  dsimp only at q1
  cases ep : Tg.put t d ρ1 with
  | none => rw [ep] at q1; exact q1.elim
  | some ρ2 =>
    rw [ep] at q1
    exact ⟨Hs1, ρ1, d, ρ2, sl1, hv, ep, fun σ' sl' _ => q1 σ' Hs1 H1 sl' (.refl _)⟩
end

/-! ### what is walked -/
structure WalkD (K : Fg) (J : It) (Hs : Hp) (ds : List D) : Prop where
  goes : ∀ i H, i < ds.length → Same Hs H → J.go i H
  stops : ∀ H, Same Hs H → J.stop ds.length H
  yields : ∀ i H x H' d, ds[i]? = some d → Same Hs H → J.yld i H x H' → ∀ Hs1, Same Hs Hs1 → Same Hs1 H → ∃ Hs2, Grow Hs1 H Hs2 H' ∧ Rep K Hs2 x d
def tID (K : Fg) (mg : MG) (B : Bs) (W : WX) (f : En → O (List D)) : TI := fun σ H R' => ∃ Hs ρ, Sl K B Hs H σ ρ ∧ OP K mg B W σ Hs (fun ds _ Hs' H' => ∀ J, WalkD K J Hs' ds → R' J H') (f ρ)
abbrev PID (X : Cx) (B : Bs) (W : WX) (tg e : Expr) (f : En → O (List D)) : Prop := PI X tg e (tID X.K X.mg B W f)
def forLoop (t : Tg) (body : SF) : List D → En → SO
  | [], ρ => .nx ρ
  | d :: ds, ρ => match Tg.put t d ρ with
    | none => .bad
    | some ρ1 => match body ρ1 with
      | .nx ρ2 => forLoop t body ds ρ2
      | .ct ρ2 => forLoop t body ds ρ2
      | .bk ρ2 => .nx ρ2
      | .rt d fr ρ2 => .rt d fr ρ2
      | .er e ρ2 => .er e ρ2
      | .bad => .bad
def forS (t : Tg) (src : En → O (List D)) (body : SF) : SF := fun ρ => (src ρ).then fun ds ρ1 => forLoop t body ds ρ1
theorem drop_get {α : Type} {xs : List α} {i : Nat} (h : i < xs.length) : xs.drop i = xs[i] :: xs.drop (i + 1) := by
  rw [List.drop_eq_getElem_cons h]
section
variable {X : Cx} {B : Bs} {W : WX} {e tg : Expr} {t : Tg} {pos : Pos} {src : En → O (List D)} {body : List Stmt} {fb : SF}
theorem psd_for (hp : PassesOwn (model X.prog X.w) X.A X.env X.xe) (hc : X.calm = true) (hi : PID X B W tg e src) (hg : PG X tg (gD X.K B t)) (hb : PSsD X B W body fb)
    (hs : ∀ x, foldedSetIterable e X.env x = pure x := by intro _; rfl) : PSD X B W (.For tg e body [] pos) (forS t src fb) := PS.imp (ps_for hp hc hi hg hb hs) fun D' σ H ⟨Hs, ρ, sl, q⟩ => by
  refine ⟨Hs, ρ, sl, OP.imp (OP.stm q) fun ds ρ1 Hs1 H1 _ sl1 e1 q1 J w => ?_⟩
  refine ⟨fun i m σ H => m = ds.length - i ∧ i ≤ ds.length ∧ ∃ Hs ρ, Same Hs1 Hs ∧ Sl X.K B Hs H σ ρ ∧ SQ X.K X.mg B W Hs D' (forLoop t fb (ds.drop i) ρ), ⟨ds.length, rfl, Nat.zero_le _, Hs1, ρ1, .refl _, sl1, q1⟩, ?_⟩
  rintro i m σ2 H2 ⟨rfl, hi, Hs2, ρ2, s2, sl2, q2⟩
  have sm : Same Hs1 H2 := s2.trans sl2.sub
  by_cases hlt : i < ds.length
  · refine .inr ⟨w.goes i H2 hlt sm, fun σ H => ∃ Hs ρ, Same Hs1 Hs ∧ Sl X.K B Hs H σ ρ ∧ SQ X.K X.mg B W Hs D' (forLoop t fb (ds.drop (i + 1)) ρ), fun σ' H' h => ⟨ds.length - (i + 1), by omega, rfl, hlt, h⟩, fun x H3 y => ?_⟩
    obtain ⟨Hs3, g, r⟩ := w.yields i H2 x H3 ds[i] (by simp [hlt]) sm y Hs2 s2 sl2.sub
    rw [drop_get hlt] at q2
    unfold forLoop at q2
    cases ep : Tg.put t ds[i] ρ2 with
    | none => rw [ep] at q2; exact q2.elim
    | some ρ3 =>
      rw [ep] at q2
      dsimp only at q2
      refine ⟨Hs3, ρ2, _, ρ3, sl2.grow g, r, ep, fun σ3 sl3 _ => ⟨Hs3, ρ3, sl3, ?_⟩⟩
      have s3 : Same Hs1 Hs3 := s2.trans g.s
      cases eb : fb ρ3 with
      | nx ρ4 =>
        rw [eb] at q2
        exact fun σ' Hs' H' sl' e => ⟨Hs', ρ4, s3.trans e, sl', SQ.later q2 (g.s.trans e)⟩
      | ct ρ4 =>
        rw [eb] at q2
        exact fun σ' Hs' H' sl' e => ⟨Hs', ρ4, s3.trans e, sl', SQ.later q2 (g.s.trans e)⟩
      | bk ρ4 => rw [eb] at q2; exact SQ.later (o := .nx ρ4) q2 g.s
      | rt d fr ρ4 => rw [eb] at q2; exact SQ.later (o := .rt d fr ρ4) q2 g.s
      | er z ρ4 => rw [eb] at q2; exact SQ.later (o := .er z ρ4) q2 g.s
      | bad => rw [eb] at q2; exact q2.elim
  · have e : i = ds.length := by omega
    subst e
    rw [List.drop_length] at q2
    exact .inl ⟨w.stops H2 sm, q2 σ2 Hs2 H2 sl2 (.refl _)⟩
end
end DL

/-! DL9 -/
namespace DL
open PySem PySem.Spec PyProof.Rows L2

/-! ### a base within: what the slots own may be written, all else stays -/
def Slot.lent : Slot → Bool
  | .arg _ => true
  | .atr _ => true
  | .gho _ _ => true
  | .tab _ => true
  | _ => false
def inB (B : Bs) (Hs H : Hp) (ρ : En) (F : Nat → List Addr) : Bs := ⟨Hs, H, fun a => ∃ (j : Nat) (s : Slot), ρ[j]? = some s ∧ s.lent = true ∧ a ∈ F j, fun a => ∃ (j : Nat) (s : Slot), ρ[j]? = some s ∧ s.lent = false ∧ a ∈ F j, B.rt, B.pin⟩
section
variable {K : Fg} {B B' : Bs} {Hs H Hs' H' : Hp} {σ σ' : L2.St} {ρ ρ' : En} {F : Nat → List Addr}
/-- what a slot owns may be written -/
theorem Feet.may {x : Option V} {s : Slot} {f : List Addr} (h : Feet K B Hs H x s f) (o : SlotOk K B Hs H x s) : ∀ a ∈ f, (s.lent = false → B.nw a) ∧ (B.nw a ∨ B.own0 a) := fun a i => by
  cases s with
  | own d =>
    obtain ⟨p, rfl, rfl⟩ := h
    obtain ⟨p', e, n, z, c⟩ := o
    cases e
    rw [List.mem_singleton] at i
    subst i
    exact ⟨fun _ => z, .inl z⟩
  | arg d =>
    obtain ⟨p, rfl, rfl⟩ := h
    obtain ⟨p', e, n, z, c⟩ := o
    cases e
    rw [List.mem_singleton] at i
    subst i
    exact ⟨fun z => (by cases z), z.2⟩
  | tre d => obtain ⟨p, e, t, z⟩ := h; exact ⟨fun _ => z a i, .inl (z a i)⟩
  | atr d => obtain ⟨p, e, t, _, z⟩ := h; exact ⟨fun y => (by cases y), z a i⟩
  | gho n d => obtain ⟨p, e, t, z⟩ := h; exact ⟨fun y => (by cases y), z a i⟩
  | tab T => exact ⟨fun y => (by cases y), h.2 a i⟩
  | un => have h : f = [] := h; rw [h] at i; cases i
  | val d => have h : f = [] := h; rw [h] at i; cases i
  | fn d => have h : f = [] := h; rw [h] at i; cases i
/-- the same under another base -/
theorem Feet.rebase {x : Option V} {s : Slot} {f : List Addr} (h : Feet K B Hs H x s f) (o : SlotOk K B Hs H x s) (m : ∀ a ∈ f, (s.lent = false → B'.nw a) ∧ (B'.nw a ∨ B'.own0 a)) (r : ∀ a, B.rt a → B'.rt a) (ep : ∀ n a, B.pin n = some a → B'.pin n = some a) : Feet K B' Hs H x s f ∧ SlotOk K B' Hs H x s := by
  have tp : ∀ {p d f}, TreP K B.pin Hs H p d f → TreP K B'.pin Hs H p d f := fun t => ⟨t.1.mono (.refl _) ep (fun _ _ _ e => e) (fun _ _ e => e), t.2⟩
  cases s with
  | own d =>
    obtain ⟨p, rfl, rfl⟩ := h
    obtain ⟨p', e, n, z, c⟩ := o
    cases e
    exact ⟨⟨p, rfl, rfl⟩, p, rfl, n, (m p (List.mem_singleton_self p)).1 rfl, c⟩
  | arg d =>
    obtain ⟨p, rfl, rfl⟩ := h
    obtain ⟨p', e, n, z, c⟩ := o
    cases e
    exact ⟨⟨p, rfl, rfl⟩, p, rfl, n, ⟨r p z.1, (m p (List.mem_singleton_self p)).2⟩, c⟩
  | tre d => obtain ⟨p, e, t, z⟩ := h; exact ⟨⟨p, e, tp t, fun a i => (m a i).1 rfl⟩, p, f, e, tp t, fun a i => (m a i).1 rfl⟩
  | atr d => obtain ⟨p, e, t, q, z⟩ := h; exact ⟨⟨p, e, tp t, r p q, fun a i => (m a i).2⟩, p, f, e, tp t, r p q, fun a i => (m a i).2⟩
  | gho n d => obtain ⟨p, e, t, z⟩ := h; exact ⟨⟨p, ep n p e, tp t, fun a i => (m a i).2⟩, p, f, ep n p e, tp t, fun a i => (m a i).2⟩
  | tab T => exact ⟨⟨h.1, fun a i => (m a i).2⟩, f, h.1, fun a i => (m a i).2⟩
  | un => exact ⟨h, o⟩
  | val d => exact ⟨h, o⟩
  | fn d => exact ⟨h, o⟩
theorem Sl.inner (sl : Sl K B Hs H σ ρ) (fe : FeetOk K B Hs H σ ρ F) : Sl K (inB B Hs H ρ F) Hs H σ ρ ∧ FeetOk K (inB B Hs H ρ F) Hs H σ ρ F := by
  have key : ∀ (i : Nat) (x : Option V) (s : Slot), σ[i]? = some x → ρ[i]? = some s → Feet K (inB B Hs H ρ F) Hs H x s (F i) ∧ SlotOk K (inB B Hs H ρ F) Hs H x s := fun i x s a b =>
    (fe.at_ i x s a b).rebase (sl.ok i x s a b) (fun c m => by
      cases e : s.lent with
      | false => exact ⟨fun _ => .inr ⟨i, s, b, e, m⟩, .inl (.inr ⟨i, s, b, e, m⟩)⟩
      | true => exact ⟨fun z => (by cases z), .inr ⟨i, s, b, e, m⟩⟩) (fun _ z => z) fun _ _ z => z
  have fe' : FeetOk K (inB B Hs H ρ F) Hs H σ ρ F := ⟨fun i x s a b => (key i x s a b).1, fe.out, fe.dis⟩
  refine ⟨⟨sl.len, fun i x s a b => (key i x s a b).2, sl.sub, .refl _, fun a => ?_, fun a o e _ _ => e, fun a w => ?_, F, fe'⟩, fe'⟩
  · cases e : Hs a with
    | none => exact .inl rfl
    | some o => exact .inr (.inl (by show Hs a ≠ none; rw [e]; simp))
  · have h1 : ∃ (j : Nat) (s : Slot), ρ[j]? = some s ∧ a ∈ F j := by
      rcases w with ⟨j, s, b, _, m⟩ | ⟨j, s, b, _, m⟩ <;> exact ⟨j, s, b, m⟩
    obtain ⟨j, s, b, m⟩ := h1
    obtain ⟨x, ex⟩ := sl_var sl b
    exact ((fe.at_ j x s ex b).there (sl.ok j x s ex b) a m).1.some
theorem inB_may (sl : Sl K B Hs H σ ρ) (fe : FeetOk K B Hs H σ ρ F) {a : Addr} : ((inB B Hs H ρ F).nw a → B.nw a) ∧ ((inB B Hs H ρ F).own0 a → B.nw a ∨ B.own0 a) := by
  refine ⟨fun z => ?_, fun ⟨j, s, b, e, m⟩ => ?_⟩
  · rcases z with z | ⟨j, s, b, e, m⟩
    · exact sl.nw_of z
    · obtain ⟨x, ex⟩ := sl_var sl b
      exact ((fe.at_ j x s ex b).may (sl.ok j x s ex b) a m).1 e
  · obtain ⟨x, ex⟩ := sl_var sl b
    exact ((fe.at_ j x s ex b).may (sl.ok j x s ex b) a m).2
theorem Sl.outer {σ2 : L2.St} {ρ2 : En} (sl : Sl K B Hs H σ ρ) (fe : FeetOk K B Hs H σ ρ F) (i : Sl K (inB B Hs H ρ F) Hs' H' σ2 ρ2) : Sl K B Hs' H' σ2 ρ2 ∧ ∀ F2, FeetOk K (inB B Hs H ρ F) Hs' H' σ2 ρ2 F2 → FeetOk K B Hs' H' σ2 ρ2 F2 := by
  have key : ∀ F2, FeetOk K (inB B Hs H ρ F) Hs' H' σ2 ρ2 F2 → ∀ (j : Nat) (x : Option V) (s : Slot), σ2[j]? = some x → ρ2[j]? = some s → Feet K B Hs' H' x s (F2 j) ∧ SlotOk K B Hs' H' x s := fun F2 f2 j x s a b =>
    (f2.at_ j x s a b).rebase (i.ok j x s a b) (fun c m => by
      have q := (f2.at_ j x s a b).may (i.ok j x s a b) c m
      refine ⟨fun z => (inB_may sl fe).1 (q.1 z), ?_⟩
      rcases q.2 with z | z
      · exact .inl ((inB_may sl fe).1 z)
      · exact (inB_may sl fe).2 z) (fun _ z => z) fun _ _ z => z
  have all : ∀ F2, FeetOk K (inB B Hs H ρ F) Hs' H' σ2 ρ2 F2 → FeetOk K B Hs' H' σ2 ρ2 F2 := fun F2 f2 => ⟨fun j x s a b => (key F2 f2 j x s a b).1, f2.out, f2.dis⟩
  obtain ⟨F2, f2⟩ := i.feet
  refine ⟨⟨i.len, fun j x s a b => (key F2 f2 j x s a b).2, i.sub, sl.base.trans i.base, fun a => ?_, fun a o e w w1 => ?_, fun a w => ?_, F2, all F2 f2⟩, all⟩
  · rcases i.new a with h | h | h
    · exact .inl h
    · rcases sl.new a with q | q | q
      · exact absurd q h
      · exact .inr (.inl q)
      · refine .inr (.inr (q.imp id fun t => ?_))
        have nf : ∀ k, a ∉ F k := fun k m => by
          cases ek : ρ[k]? with
          | none => rw [fe.out k ek] at m; cases m
          | some s =>
            obtain ⟨x, ex⟩ := sl_var sl ek
            exact ((fe.at_ k x s ex ek).there (sl.ok k x s ex ek) a m).1.notup t
        obtain ⟨xs, e⟩ := t
        exact ⟨xs, i.keep a _ e (fun ⟨k, d, z1, z2, z3⟩ => nf k z3) fun ⟨k, d, z1, z2, z3⟩ => nf k z3⟩
    · exact .inr (.inr (h.imp (inB_may sl fe).1 id))
  · have no : ∀ z : B.nw a ∨ B.own0 a, False := fun z => by
      rcases z with (z | z) | z
      · rw [e] at z; cases z
      · exact w1 z
      · exact w z
    exact i.keep a o (sl.keep a o e w w1) (fun z => no ((inB_may sl fe).2 z)) fun z => no (.inl ((inB_may sl fe).1 (.inr z)))
  · obtain ⟨o, e⟩ := sl.there a w
    by_cases w0 : (inB B Hs H ρ F).own0 a
    · exact i.there a (.inl w0)
    · by_cases w1 : (inB B Hs H ρ F).own1 a
      · exact i.there a (.inr w1)
      · exact ⟨o, i.keep a o e w0 w1⟩
/-- an object that no slot owns stays, and stays nobody's -/
theorem Sl.floats {σ2 : L2.St} {ρ2 : En} {p : Addr} {o : HO} (i : Sl K (inB B Hs H ρ F) Hs' H' σ2 ρ2) (e : H p = some o) (nt : ∀ xs, o ≠ .tup xs) (n : Hs p = none) (np : ∀ j, p ∉ F j) :
    H' p = some o ∧ Hs' p = none ∧ ∀ F2, FeetOk K (inB B Hs H ρ F) Hs' H' σ2 ρ2 F2 → ∀ j, p ∉ F2 j := by
  have w0 : ¬ (inB B Hs H ρ F).own0 p := fun ⟨k, d, z1, z2, z3⟩ => np k z3
  have w1 : ¬ (inB B Hs H ρ F).own1 p := fun ⟨k, d, z1, z2, z3⟩ => np k z3
  have nn : ¬ (inB B Hs H ρ F).nw p := fun z => by
    rcases z with z | z
    · have z : H p = none := z
      rw [e] at z; cases z
    · exact w1 z
  refine ⟨i.keep p o e w0 w1, ?_, fun F2 f2 j m => ?_⟩
  · rcases i.new p with h | h | h
    · exact h
    · exact absurd n h
    · exact (h.elim nn fun ⟨xs, t⟩ => nt xs (Option.some.inj ((i.keep p o e w0 w1).symm.trans t))).elim
  · cases es : ρ2[j]? with
    | none => rw [f2.out j es] at m; cases m
    | some s =>
      obtain ⟨x, ex⟩ := sl_var i es
      rcases ((f2.at_ j x s ex es).may (i.ok j x s ex es) p m).2 with z | z
      · exact nn z
      · exact w0 z
def wipeE (ρ : En) : List Nat → En
  | [] => ρ
  | v :: vs => (wipeE ρ vs).set v .un
theorem FeetOk.forget1 {i : Nat} (h : FeetOk K B Hs H σ ρ F) : FeetOk K B Hs H (σ.set i none) (ρ.set i .un) (fun j => if i = j then [] else F j) := by
    refine ⟨fun j x t a b => ?_, fun j a => ?_, fun j k hjk a ha hb => ?_⟩
    · by_cases e : i = j
      · subst e
        have hl := (List.getElem?_eq_some_iff.mp b).1
        rw [List.length_set] at hl
        rw [List.getElem?_set_self hl] at b
        cases b
        rw [if_pos rfl]
        rfl
      · rw [List.getElem?_set_ne e] at a b
        rw [if_neg e]
        exact h.at_ j x t a b
    · by_cases e : i = j
      · rw [if_pos e]
      · rw [if_neg e]
        rw [List.getElem?_set_ne e] at a
        exact h.out j a
    · by_cases e : i = j
      · rw [if_pos e] at ha; cases ha
      · by_cases e2 : i = k
        · rw [if_pos e2] at hb; cases hb
        · rw [if_neg e] at ha
          rw [if_neg e2] at hb
          exact h.dis j k hjk a ha hb
theorem Sl.forget1 {i : Nat} (sl : Sl K B Hs H σ ρ) : Sl K B Hs H (σ.set i none) (ρ.set i .un) where
  len := by rw [List.length_set, List.length_set]; exact sl.len
  ok := fun j x t a b => by
    by_cases h : i = j
    · subst h
      have hl := (List.getElem?_eq_some_iff.mp b).1
      rw [List.length_set] at hl
      rw [List.getElem?_set_self hl] at b
      cases b
      trivial
    · rw [List.getElem?_set_ne h] at a b
      exact sl.ok j x t a b
  sub := sl.sub
  base := sl.base
  new := sl.new
  keep := sl.keep
  there := sl.there
  feet := by
    obtain ⟨F, h⟩ := sl.feet
    exact ⟨_, h.forget1⟩
theorem Sl.wiped (sl : Sl K B Hs H σ ρ) : ∀ vs : List Nat, Sl K B Hs H (wipe σ vs) (wipeE ρ vs)
  | [] => sl
  | v :: vs => (sl.wiped vs).forget1
theorem Nob.wiped {p : Addr} (n : Nob K B Hs H σ ρ p) : ∀ vs : List Nat, Nob K B Hs H (wipe σ vs) (wipeE ρ vs) p
  | [] => n
  | v :: vs => by
    obtain ⟨F, h, q⟩ := n.wiped vs
    exact ⟨_, h.forget1, fun j m => by
      by_cases e : v = j
      · rw [if_pos e] at m; cases m
      · rw [if_neg e] at m; exact q j m⟩
theorem wipeE_un {i : Nat} : ∀ {vs : List Nat}, i ∈ vs → ∀ s, (wipeE ρ vs)[i]? = some s → s = .un
  | [], h, _, _ => by cases h
  | v :: vs, h, s, e => by
    unfold wipeE at e
    by_cases hv : v = i
    · subst hv
      have hl := (List.getElem?_eq_some_iff.mp e).1
      rw [List.length_set] at hl
      rw [List.getElem?_set_self hl] at e
      exact (Option.some.inj e).symm
    · rw [List.getElem?_set_ne hv] at e
      rcases List.mem_cons.mp h with h | h
      · exact absurd h.symm hv
      · exact wipeE_un h s e
theorem wipe_out' {i : Nat} {vs : List Nat} (h : i ∉ vs) : (wipe σ vs)[i]? = σ[i]? := wipe_out h
theorem FeetOk.unwipe {vs : List Nat} (h : FeetOk K B Hs H (wipe σ vs) (wipeE ρ vs) F) (sl : Sl K B Hs H (wipe σ vs) (wipeE ρ vs)) : FeetOk K B Hs H σ (wipeE ρ vs) F := ⟨fun j x t a b => by
    by_cases hj : j ∈ vs
    · have e := wipeE_un hj t b
      subst e
      obtain ⟨y, ey⟩ := sl_var sl b
      exact h.at_ j y _ ey b
    · rw [← wipe_out' hj] at a
      exact h.at_ j x t a b, h.out, h.dis⟩
theorem Sl.unwipe {vs : List Nat} (sl : Sl K B Hs H (wipe σ vs) (wipeE ρ vs)) : Sl K B Hs H σ (wipeE ρ vs) where
  len := by rw [← sl.len, wipe_length]
  ok := fun j x t a b => by
    by_cases h : j ∈ vs
    · rw [wipeE_un h t b]; trivial
    · rw [← wipe_out' h] at a
      exact sl.ok j x t a b
  sub := sl.sub
  base := sl.base
  new := sl.new
  keep := sl.keep
  there := sl.there
  feet := by
    obtain ⟨F, h⟩ := sl.feet
    exact ⟨F, h.unwipe sl⟩
/-- something nobody owns is written -/
theorem Sl.scratch {p : Addr} {o : HO} (sl : Sl K B Hs H σ ρ) (fe : FeetOk K B Hs H σ ρ F) (np : ∀ j, p ∉ F j) (n : Hs p = none) (z : B.nw p ∨ B.own0 p) (nt : ¬ TupAt H p) : Sl K B Hs (L2.upd H p o) σ ρ ∧ FeetOk K B Hs (L2.upd H p o) σ ρ F := by
  have st : ∀ i, ∀ c ∈ F i, ∀ u, H c = some u → L2.upd H p o c = some u := fun i c m u e => by rw [L2.upd_ne (fun q => np i (by rw [← q]; exact m))]; exact e
  have fe' : FeetOk K B Hs (L2.upd H p o) σ ρ F := ⟨fun i x s a b => (fe.at_ i x s a b).mono (.refl _) (st i) (fun _ _ e => e), fe.out, fe.dis⟩
  refine ⟨⟨sl.len, fun i x s a b => (sl.ok i x s a b).stays (fe.at_ i x s a b) (.refl _) (st i) (fun _ _ e => e), same_into sl.sub n, sl.base, fun a => (sl.new a).imp id fun q => q.imp id fun q => q.imp id fun t => ⟨t.choose, by rw [L2.upd_ne (fun z => nt (by rw [← z]; exact t))]; exact t.choose_spec⟩, fun a u e w w1 => ?_, fun a w => ?_, F, fe'⟩, fe'⟩
  · have k := sl.keep a u e w w1
    by_cases ha : a = p
    · subst ha
      rcases z with (z | z) | z
      · rw [e] at z; cases z
      · exact absurd z w1
      · exact absurd z w
    · rw [L2.upd_ne ha]; exact k
  · obtain ⟨u, e⟩ := sl.there a w
    by_cases ha : a = p
    · subst ha; exact ⟨_, L2.upd_same⟩
    · rw [L2.upd_ne ha]; exact ⟨u, e⟩
theorem wipe_eq {vs : List Nat} (o : Out vs σ σ') : wipe σ' vs = wipe σ vs := by
  refine List.ext_getElem? fun i => ?_
  by_cases h : i ∈ vs
  · have gone : ∀ (τ : L2.St) {ws : List Nat}, i ∈ ws → (wipe τ ws)[i]? = if i < τ.length then some none else none := fun τ ws => by
      induction ws with
      | nil => intro h; cases h
      | cons v ws ih =>
        intro h
        unfold wipe
        by_cases hv : v = i
        · subst hv
          rw [List.getElem?_set, wipe_length]
          simp
        · rw [List.getElem?_set_ne hv]
          rcases List.mem_cons.mp h with h | h
          · exact absurd h.symm hv
          · exact ih h
    rw [gone σ' h, gone σ h, o.1]
  · rw [wipe_out' h, wipe_out' h, o.2 i h]
end

/-! ### comprehensions -/
def noEr {α : Type} : O α → O α
  | .er _ _ => .bad
  | o => o
abbrev W0 : WX := fun _ _ _ _ => False
theorem OP.noEr {α : Type} {K : Fg} {mg : MG} {B : Bs} {σ : L2.St} {Hs : Hp} {P : α → En → Hp → Hp → Prop} {o : O α} (h : OP K mg B W0 σ Hs P (DL.noEr o)) : OP K mg B W0 σ Hs P o := by
  cases o with
  | ok x r => exact h
  | er e r => exact h.elim
  | bad => exact h
def compLoop (t : Tg) (vs : List Nat) (tt : BF) (te : EF) : List D → En → O (List D)
  | [], ρ => .ok [] ρ
  | d :: ds, ρ => match t.put d ρ with
    | none => .bad
    | some ρ1 => (noEr (tt ρ1)).bind fun b ρ2 => if b = true then (noEr (te ρ2)).bind fun x ρ3 => match x with
        | .st z => (compLoop t vs tt te ds (wipeE ρ3 vs)).bind fun zs ρ4 => .ok (z :: zs) ρ4
        | _ => .bad
      else compLoop t vs tt te ds (wipeE ρ2 vs)
def compC (t : Tg) (vs : List Nat) (src : En → O (List D)) (tt : BF) (te : EF) : CF := fun ρ => (src ρ).bind fun ds ρ1 => (noEr (compLoop t vs tt te ds (wipeE ρ1 vs))).bind fun zs ρ2 => if short zs = true then .ok (.list zs) ρ2 else .bad
def tDA (K : Fg) (mg : MG) (f : EF) : TE := fun σ H Q => ∃ B, tD K mg B W0 f σ H Q
def tTA (K : Fg) (mg : MG) (f : BF) : TT := fun σ H Q => ∃ B, tTD K mg B W0 f σ H Q
def tgA (K : Fg) (t : Tg) : TG := fun v σ H Q => ∃ B, gD K B t v σ H Q
def yes : BF := fun ρ => .ok true ρ
theorem PTs.imp {X : Cx} {e : List Expr} {t t' : TT} (h : PTs X e t) (i : ∀ σ H Q, t' σ H Q → t σ H Q) : PTs X e t' := ⟨fun pins s σ H Q I q => h.run pins s σ H Q I (i σ H Q q)⟩
theorem ptsd_nil {X : Cx} {B : Bs} {W : WX} : PTs X [] (tTD X.K X.mg B W yes) := PTs.imp pts_nil fun σ H Q ⟨Hs, ρ, sl, q⟩ => q Hs H sl (.refl _)
theorem ptsd_one {X : Cx} {B : Bs} {W : WX} {c : Expr} {f : BF} (h : PB X B W c f) : PTs X [c] (tTD X.K X.mg B W f) := pts_one h
section
variable {X : Cx} {B : Bs} {W : WX} {elt tg iter : Expr} {ifs : List Expr} {scope : Scope} {own : List (Str × Nat)} {pos : Pos} {t : Tg} {src : En → O (List D)} {tt : BF} {fe : EF}
theorem comp_read {σ : L2.St} {H : Hp} {Q : VK} {vs : List Nat} (hv : ∀ i ∈ t.at, i ∈ vs) (h : tC' X.K X.mg B W (compC t vs src tt fe) σ H Q) : tLc (tID X.K X.mg B W src) (tgA X.K t) (tTA X.K X.mg tt) (tDA X.K X.mg fe) vs σ H Q := by
  obtain ⟨Hs, ρ, sl, q⟩ := h
  refine ⟨Hs, ρ, sl, OP.imp (OP.bind q) fun ds ρ1 Hs1 H1 _ sl1 e1 q1 J w Dl nD => ?_⟩
  have q1 := q1
  obtain ⟨f1, f2, f3⟩ := sl1.fresh nD
  -- what is wanted of the rest of the loop, with acc made so far
  let Fin : List D → O (List D) → Prop := fun acc o => match o with
    | .ok zs ρ2 => (acc ++ zs).length ≤ 100000 ∧ ∀ Hs' H' p, Sl X.K B Hs' H' σ ρ2 → Same Hs1 Hs' → Hs' p = none → B.nw p → Nob X.K B Hs' H' σ ρ2 p → Cont X.K Hs' H' p (.list (acc ++ zs)) → Q (.ref p) H'
    | _ => False
  have fin0 : Fin [] (compLoop t vs tt fe ds (wipeE ρ1 vs)) := by
    cases ec : compLoop t vs tt fe ds (wipeE ρ1 vs) with
    | er e r => rw [ec] at q1; exact q1.elim
    | bad => rw [ec] at q1; exact q1.elim
    | ok zs ρ2 =>
      rw [ec] at q1
      unfold DL.noEr O.bind at q1
      dsimp only at q1
      by_cases c : short zs = true
      · rw [if_pos c] at q1
        exact ⟨of_decide_eq_true c, fun Hs' H' p a b c d e f => q1 Hs' H' a b p c d e f⟩
      · rw [if_neg c] at q1; exact q1.elim
  refine ⟨fun i m H' => m = ds.length - i ∧ i ≤ ds.length ∧ ∃ Hs' ρ' acc, Same Hs1 Hs' ∧ Sl X.K B Hs' H' (wipe σ vs) (wipeE ρ' vs) ∧ Hs' Dl = none ∧ Nob X.K B Hs' H' (wipe σ vs) (wipeE ρ' vs) Dl ∧ Cont X.K Hs' H' Dl (.list acc) ∧ Fin acc (compLoop t vs tt fe (ds.drop i) (wipeE ρ' vs)),
    ⟨ds.length, rfl, Nat.zero_le _, Hs1, ρ1, [], .refl _, (sl1.grow (Grow.loose sl1.sub nD)).wiped vs, f1, (f3.grow sl1 (Grow.loose sl1.sub nD)).wiped vs, ⟨[], upd_same, .nil⟩, fin0⟩, ?_⟩
  rintro i m H2 ⟨rfl, hi, Hs2, ρ2, acc, s2, sl2, nd2, np2, cn2, fin2⟩
  have sm : Same Hs1 H2 := s2.trans sl2.sub
  by_cases hlt : i < ds.length
  · refine .inr ⟨w.goes i H2 hlt sm, fun H' => i + 1 ≤ ds.length ∧ ∃ Hs' ρ' acc, Same Hs1 Hs' ∧ Sl X.K B Hs' H' (wipe σ vs) (wipeE ρ' vs) ∧ Hs' Dl = none ∧ Nob X.K B Hs' H' (wipe σ vs) (wipeE ρ' vs) Dl ∧ Cont X.K Hs' H' Dl (.list acc) ∧ Fin acc (compLoop t vs tt fe (ds.drop (i + 1)) (wipeE ρ' vs)),
      fun H' h => ⟨ds.length - (i + 1), by omega, rfl, h⟩, fun x H3 y => ?_⟩
    obtain ⟨Hs3, g, r⟩ := w.yields i H2 x H3 ds[i] (by simp [hlt]) sm y Hs2 s2 sl2.sub
    rw [drop_get hlt] at fin2
    unfold compLoop at fin2
    cases ep : Tg.put t ds[i] (wipeE ρ2 vs) with
    | none => rw [ep] at fin2; exact fin2.elim
    | some ρ3 =>
      rw [ep] at fin2
      dsimp only at fin2
      have sl3 := sl2.grow g
      have nd3 : Hs3 Dl = none := by
        rcases g.new Dl with h | h | h
        · exact h
        · exact absurd nd2 h
        · exact (cn2.own.nofree h).elim
      obtain ⟨vs3, ev3, rv3⟩ := cn2
      have ev3 : H3 Dl = some (.lst vs3) := g.h _ _ ev3
      have rv3 := rv3.mono g.s
      obtain ⟨F2, fe2, nF2⟩ := np2
      have fe3 := fe2.grow sl2 g
      have slI := (sl3.inner fe3).1
      refine ⟨_, Hs3, _, _, ρ3, slI, r, ep, fun σ4 sl4 o4 => ⟨?_, ?_⟩⟩
      · refine wipe_eq (σ := wipe σ vs) (σ' := σ4) ⟨o4.1, fun j hj => o4.2 j fun z => hj (hv j z)⟩ |>.trans ?_
        refine wipe_eq ⟨wipe_length _ _, fun j hj => wipe_out' hj⟩
      have wq : wipe σ4 vs = wipe σ vs := (wipe_eq (σ := wipe σ vs) (σ' := σ4) ⟨o4.1, fun j hj => o4.2 j fun z => hj (hv j z)⟩).trans (wipe_eq ⟨wipe_length _ _, fun j hj => wipe_out' hj⟩)
      have lenz : vs3.length = acc.length := rv3.length
      refine ⟨_, Hs3, ρ3, sl4, ?_⟩
      cases et : tt ρ3 with
      | er e z => rw [et] at fin2; exact fin2.elim
      | bad => rw [et] at fin2; exact fin2.elim
      | ok b ρ4 =>
        rw [et] at fin2
        unfold DL.noEr O.bind at fin2
        dsimp only at fin2
        intro Hs5 H5 sl5 e5
        cases b with
        | false =>
          rw [if_neg (by decide)] at fin2
          rw [if_neg (by decide)]
          have sl6 := (sl5.wiped vs)
          rw [wq] at sl6
          obtain ⟨h1, h2, h3⟩ := sl6.floats ev3 (fun _ => nofun) nd3 nF2
          obtain ⟨slo, all⟩ := sl3.outer fe3 sl6
          obtain ⟨F4, fe4⟩ := sl6.feet
          exact ⟨hlt, Hs5, ρ4, acc, (s2.trans g.s).trans e5, slo, h2, ⟨F4, all F4 fe4, h3 F4 fe4⟩, ⟨vs3, h1, rv3.mono e5⟩, fin2⟩
        | true =>
          rw [if_pos rfl] at fin2
          rw [if_pos rfl]
          refine ⟨_, Hs5, ρ4, sl5, ?_⟩
          cases ee : fe ρ4 with
          | er e z => rw [ee] at fin2; exact fin2.elim
          | bad => rw [ee] at fin2; exact fin2.elim
          | ok x6 ρ6 =>
            rw [ee] at fin2
            cases x6 <;> first | exact fin2.elim | skip
            rename_i z6
            dsimp only at fin2
            intro Hs7 H7 sl7 e7 v7 hv7
            have sl8 := (sl7.wiped vs)
            rw [wq] at sl8
            obtain ⟨h1, h2, h3⟩ := sl8.floats ev3 (fun _ => nofun) nd3 nF2
            obtain ⟨slo, all⟩ := sl3.outer fe3 sl8
            obtain ⟨F4, fe4⟩ := sl8.feet
            obtain ⟨sl9, fe9⟩ := slo.scratch (o := .lst (vs3 ++ [v7])) (all F4 fe4) (h3 F4 fe4) h2 (.inl f2) (fun ⟨_, t⟩ => by rw [h1] at t; cases t)
            cases ec : compLoop t vs tt fe (ds.drop (i + 1)) (wipeE ρ6 vs) with
            | er e z => rw [ec] at fin2; exact fin2.elim
            | bad => rw [ec] at fin2; exact fin2.elim
            | ok zs ρ10 =>
              rw [ec] at fin2
              obtain ⟨l10, fin10⟩ := fin2
              have h8 : (100000 : Nat) ≤ sizeLine := by decide
              refine ⟨vs3, h1, ?_, hlt, Hs7, ρ6, acc ++ [z6], (s2.trans g.s).trans (e5.trans e7), sl9, h2, ⟨F4, fe9, h3 F4 fe4⟩, ⟨vs3 ++ [v7], upd_same, ((rv3.mono (e5.trans e7)).append (.cons hv7 .nil))⟩, ?_⟩
              · rw [List.length_append, List.length_cons] at l10
                omega
              · rw [ec]
                refine ⟨?_, ?_⟩
                · rw [List.append_assoc]; exact l10
                · rw [List.append_assoc]; exact fin10
  · have e : i = ds.length := by omega
    subst e
    rw [List.drop_length] at fin2
    obtain ⟨_, fin3⟩ := fin2
    rw [List.append_nil] at fin3
    obtain ⟨F2, fe2, nF2⟩ := np2
    exact .inl ⟨w.stops H2 sm, fin3 Hs2 H2 Dl sl2.unwipe s2 nd2 f2 ⟨F2, fe2.unwipe sl2, nF2⟩ cn2⟩
/-- [e for t in .. if ..] -/
theorem pc_lc (hc : X.calm = true) (hN : X.N.Nodup) (hi : PID X B W tg iter src) (ok : BlkOk X.N X.env.scope scope own)
    (hg : ∀ (s : Shared) (H : Hp) (C : Addr) (cl : List (Str × Addr)) (fp : List Addr) (B : Bs), PG (X.blk s H scope (compEnvC scope cl C X.env) fp) tg (gD X.K B t))
    (ht : ∀ (s : Shared) (H : Hp) (C : Addr) (cl : List (Str × Addr)) (fp : List Addr) (B : Bs), PTs (X.blk s H scope (compEnvC scope cl C X.env) fp) ifs (tTD X.K X.mg B W0 tt))
    (he : ∀ (s : Shared) (H : Hp) (C : Addr) (cl : List (Str × Addr)) (fp : List Addr) (B : Bs), PD (X.blk s H scope (compEnvC scope cl C X.env) fp) B W0 elt fe)
    (hv : ∀ i ∈ t.at, i ∈ own.map (·.2) := by decide) (hs : ∀ x, foldedSetIterable iter X.env x = pure x := by intro _; rfl) : PC' X B W (.ListComp elt [⟨tg, iter, ifs, 0⟩] scope pos) (compC t (own.map (·.2)) src tt fe) :=
  PE.imp (pe_lc (g := tgA X.K t) (tt := tTA X.K X.mg tt) (te := tDA X.K X.mg fe) hc hN hi ok (fun s H C cl fp => ⟨fun pins s' σ H' v u Q I r ⟨B, q⟩ => (hg s H C cl fp B).run pins s' σ H' v u Q I r q⟩)
    (fun s H C cl fp => ⟨fun pins s' σ H' Q I ⟨B, q⟩ => (ht s H C cl fp B).run pins s' σ H' Q I q⟩) (fun s H C cl fp => ⟨fun pins s' σ H' Q I ⟨B, q⟩ => (he s H C cl fp B).run pins s' σ H' Q I q⟩) hs) fun σ H Q h => comp_read hv h
/-- name = [..] on one line -/
theorem psd_setLc {i : Nat} {y : Str} {py : Pos} {spos : Pos} (hc : X.calm = true) (hN : X.N.Nodup) (hy : X.N[i]? = some y) (hyl : X.env.scope.names.lookup y = some .local)
    (hsw : swapsWith (.ListComp elt [⟨tg, iter, ifs, 0⟩] scope pos) (some (.Name y py)) spos.line X.env = pure true) (hi : PID X B W tg iter src) (ok : BlkOk X.N X.env.scope scope own)
    (hg : ∀ (s : Shared) (H : Hp) (C : Addr) (cl : List (Str × Addr)) (fp : List Addr) (B : Bs), PG (X.blk s H scope (compEnvC scope cl C X.env) fp) tg (gD X.K B t))
    (ht : ∀ (s : Shared) (H : Hp) (C : Addr) (cl : List (Str × Addr)) (fp : List Addr) (B : Bs), PTs (X.blk s H scope (compEnvC scope cl C X.env) fp) ifs (tTD X.K X.mg B W0 tt))
    (he : ∀ (s : Shared) (H : Hp) (C : Addr) (cl : List (Str × Addr)) (fp : List Addr) (B : Bs), PD (X.blk s H scope (compEnvC scope cl C X.env) fp) B W0 elt fe)
    (hv : ∀ i ∈ t.at, i ∈ own.map (·.2) := by decide) (hs : ∀ x, foldedSetIterable iter X.env x = pure x := by intro _; rfl) : PSD X B W (.Assign [.Name y py] (.ListComp elt [⟨tg, iter, ifs, 0⟩] scope pos) spos) (asgO i (compC t (own.map (·.2)) src tt fe)) :=
  PS.imp (ps_setLc (g := tgA X.K t) (tt := tTA X.K X.mg tt) (te := tDA X.K X.mg fe) hc hN hy hyl hsw hi ok (fun s H C cl fp => ⟨fun pins s' σ H' v u Q I r ⟨B, q⟩ => (hg s H C cl fp B).run pins s' σ H' v u Q I r q⟩)
    (fun s H C cl fp => ⟨fun pins s' σ H' Q I ⟨B, q⟩ => (ht s H C cl fp B).run pins s' σ H' Q I q⟩) (fun s H C cl fp => ⟨fun pins s' σ H' Q I ⟨B, q⟩ => (he s H C cl fp B).run pins s' σ H' Q I q⟩) hs) fun D' σ H h => by
  have h1 := asgO_read h
  exact comp_read hv h1
theorem psd_setLcF {i : Nat} {y : Str} {py : Pos} {spos : Pos} (hc : X.calm = true) (hN : X.N.Nodup) (hy : X.N[i]? = some y) (hyl : X.env.scope.names.lookup y = some .local)
    (hsw : swapsWith (.ListComp elt [⟨tg, iter, ifs, 0⟩] scope pos) (some (.Name y py)) spos.line X.env = pure true) (hi : PID X B W tg iter src) (ok : BlkOk X.N X.env.scope scope own)
    (hg : ∀ (s : Shared) (H : Hp) (C : Addr) (cl : List (Str × Addr)) (fp : List Addr) (B : Bs), PG (X.blk s H scope (compEnvC scope cl C X.env) fp) tg (gD X.K B t))
    (ht : ∀ (s : Shared) (H : Hp) (C : Addr) (cl : List (Str × Addr)) (fp : List Addr) (B : Bs), PTs (X.blk s H scope (compEnvC scope cl C X.env) fp) ifs (tTD X.K X.mg B W0 tt))
    (he : ∀ (s : Shared) (H : Hp) (C : Addr) (cl : List (Str × Addr)) (fp : List Addr) (B : Bs), PD (X.blk s H scope (compEnvC scope cl C X.env) fp) B W0 elt fe)
    (hv : ∀ i ∈ t.at, i ∈ own.map (·.2) := by decide) (hs : ∀ x, foldedSetIterable iter X.env x = pure x := by intro _; rfl) : PSD X B W (.Assign [.Name y py] (.ListComp elt [⟨tg, iter, ifs, 0⟩] scope pos) spos) (asg i (frC (compC t (own.map (·.2)) src tt fe))) :=
  PS.imp (ps_setLc (g := tgA X.K t) (tt := tTA X.K X.mg tt) (te := tDA X.K X.mg fe) hc hN hy hyl hsw hi ok (fun s H C cl fp => ⟨fun pins s' σ H' v u Q I r ⟨B, q⟩ => (hg s H C cl fp B).run pins s' σ H' v u Q I r q⟩)
    (fun s H C cl fp => ⟨fun pins s' σ H' Q I ⟨B, q⟩ => (ht s H C cl fp B).run pins s' σ H' Q I q⟩) (fun s H C cl fp => ⟨fun pins s' σ H' Q I ⟨B, q⟩ => (he s H C cl fp B).run pins s' σ H' Q I q⟩) hs) fun D' σ H h => by
  have h1 : tD X.K X.mg B W (frC (compC t (own.map (·.2)) src tt fe)) σ H (fun x H1 => gName i x σ H1 D'.nx) := asg_read h
  refine comp_read hv ?_
  obtain ⟨Hs, ρ, sl, q⟩ := h1
  refine ⟨Hs, ρ, sl, OP.imp (OP.bind q) fun d ρ1 Hs1 H1 _ sl1 e1 q1 p n1 n2 n3 c => ?_⟩
  obtain ⟨o, eo⟩ := c.there
  exact q1 _ H1 (sl1.take eo n1 n2 n3) (same_upd n1) _ (c.frozen eo n1)
end

/-! ### while -/
def whileLoop (c : BF) (body : SF) : Nat → En → SO
  | 0, _ => .bad
  | n + 1, ρ => (c ρ).then fun b ρ1 => if b = true then (match body ρ1 with
      | .nx ρ2 => whileLoop c body n ρ2
      | .ct ρ2 => whileLoop c body n ρ2
      | .bk ρ2 => .nx ρ2
      | .rt d fr ρ2 => .rt d fr ρ2
      | .er e ρ2 => .er e ρ2
      | .bad => .bad)
    else .nx ρ1
theorem psd_while {X : Cx} {B : Bs} {W : WX} {c : Expr} {body : List Stmt} {cf : BF} {fb : SF} {pos : Pos} (n : Nat) (hp : PassesOwn (model X.prog X.w) X.A X.env X.xe) (hc : PB X B W c cf) (hb : PSsD X B W body fb) : PSD X B W (.While c body [] pos) (whileLoop cf fb n) :=
  PS.imp (ps_while hp hc hb) fun D' σ H ⟨Hs, ρ, sl, q⟩ => by
  refine ⟨fun m σ H => ∃ Hs ρ, Sl X.K B Hs H σ ρ ∧ SQ X.K X.mg B W Hs D' (whileLoop cf fb m ρ), ⟨n, Hs, ρ, sl, q⟩, ?_⟩
  rintro m σ1 H1 ⟨Hs1, ρ1, sl1, q1⟩
  cases m with
  | zero => exact q1.elim
  | succ m =>
    unfold whileLoop at q1
    refine ⟨Hs1, ρ1, sl1, OP.imp (OP.stm q1) fun b ρ2 Hs2 H2 _ sl2 e2 q2 => ?_⟩
    cases b with
    | false => exact q2 σ1 Hs2 H2 sl2 (.refl _)
    | true =>
      rw [if_pos rfl] at q2
      rw [if_pos rfl]
      refine ⟨fun σ H => ∃ Hs ρ, Sl X.K B Hs H σ ρ ∧ SQ X.K X.mg B W Hs D' (whileLoop cf fb m ρ), fun σ' H' h => ⟨m, Nat.lt_succ_self _, h⟩, Hs2, ρ2, sl2, ?_⟩
      cases eb : fb ρ2 with
      | nx ρ3 => rw [eb] at q2; exact fun σ' Hs' H' s e => ⟨Hs', ρ3, s, SQ.later q2 e⟩
      | ct ρ3 => rw [eb] at q2; exact fun σ' Hs' H' s e => ⟨Hs', ρ3, s, SQ.later q2 e⟩
      | bk ρ3 => rw [eb] at q2; exact q2
      | rt d fr ρ3 => rw [eb] at q2; exact q2
      | er z ρ3 => rw [eb] at q2; exact q2
      | bad => rw [eb] at q2; exact q2.elim
end DL

/-! DL10 -/
namespace DL
open PySem PySem.Spec PyProof.Rows L2

/-! ### sources of walks -/
theorem PI.or {X : Cx} {tg e : Expr} {t t' : TI} (h : PI X tg e t) (h' : PI X tg e t') : PI X tg e (fun σ H R => t σ H R ∨ t' σ H R) := ⟨fun pins s σ H R I q => q.elim (h.run pins s σ H R I) (h'.run pins s σ H R I)⟩
section
variable {K : Fg} {Hs : Hp}
theorem walk_lst {a : Addr} {vs : List V} {ds : List D} (h : Hs a = some (.lst vs)) (r : RepA K Hs vs ds) : WalkD K (Itl K a) Hs ds where
  goes := fun i H hi s => (walk_list (K := K) (a := a) (xs := vs)).goes i H (by rw [r.length]; exact hi) (.inl (.inl (s _ _ h)))
  stops := fun H s => by
    have := (walk_list (K := K) (a := a) (xs := vs)).stops H (.inl (.inl (s _ _ h)))
    rw [r.length] at this
    exact this
  yields := fun i H x H' d hd s y Hs1 s1 s2 => by
    have hi : i < vs.length := by rw [r.length]; exact (List.getElem?_eq_some_iff.mp hd).1
    obtain ⟨rfl, hx⟩ := (walk_list (K := K) (a := a) (xs := vs)).yields i H x H' hi (.inl (.inl (s _ _ h))) y
    obtain ⟨v, e, rv⟩ := r.get hd
    rw [hx] at e
    cases e
    exact ⟨Hs1, .refl s2, rv.mono s1⟩
theorem walk_tpl {a : Addr} {vs : List V} {ds : List D} (h : SqT K Hs a vs) (r : RepA K Hs vs ds) : WalkD K (Itt K a) Hs ds where
  goes := fun i H hi s => (walk_tup (K := K) (a := a) (xs := vs)).goes i H (by rw [r.length]; exact hi) (DL.Same.seqT s h)
  stops := fun H s => by
    have := (walk_tup (K := K) (a := a) (xs := vs)).stops H (DL.Same.seqT s h)
    rw [r.length] at this
    exact this
  yields := fun i H x H' d hd s y Hs1 s1 s2 => by
    have hi : i < vs.length := by rw [r.length]; exact (List.getElem?_eq_some_iff.mp hd).1
    obtain ⟨rfl, hx⟩ := (walk_tup (K := K) (a := a) (xs := vs)).yields i H x H' hi (DL.Same.seqT s h) y
    obtain ⟨v, e, rv⟩ := r.get hd
    rw [hx] at e
    cases e
    exact ⟨Hs1, .refl s2, rv.mono s1⟩
/-- lo, lo + 1, .., below hi -/
def rng (lo hi : Int) : List D := (List.range (hi - lo).toNat).map fun (i : Nat) => .int (lo + (i : Int))
theorem rng_len (lo hi : Int) : (rng lo hi).length = (hi - lo).toNat := by unfold rng; rw [List.length_map, List.length_range]
theorem walk_rng {lo hi : Int} : WalkD K (Itr lo (hi - lo).toNat) Hs (rng lo hi) where
  goes := fun i H h s => by rw [rng_len] at h; exact h
  stops := fun H s => by rw [rng_len]; exact Nat.le_refl _
  yields := fun i H x H' d hd s y Hs1 s1 s2 => by
    obtain ⟨rfl, rfl⟩ := y
    unfold rng at hd
    rw [List.getElem?_map] at hd
    cases e : (List.range (hi - lo).toNat)[i]? with
    | none => rw [e] at hd; cases hd
    | some j =>
      rw [e] at hd
      cases hd
      obtain ⟨hj, ej⟩ := List.getElem?_eq_some_iff.mp e
      rw [List.getElem_range] at ej
      subst ej
      exact ⟨Hs1, .refl s2, .int _⟩
def signs (z : Str) : List D := z.cps.toList.map fun c => .str ⟨#[c]⟩
theorem walk_sgn {z : Str} : WalkD K (Its z) Hs (signs z) where
  goes := fun i H h s => by
    unfold signs at h
    rw [List.length_map, Array.length_toList] at h
    exact h
  stops := fun H s => by
    unfold signs
    rw [List.length_map, Array.length_toList]
    exact Nat.le_refl _
  yields := fun i H x H' d hd s y Hs1 s1 s2 => by
    obtain ⟨rfl, c, hc, rfl⟩ := y
    unfold signs at hd
    rw [List.getElem?_map, Array.getElem?_toList, hc] at hd
    cases hd
    exact ⟨Hs1, .refl s2, .str _⟩
end
/-- a list or a tuple or a text that stays -/
def srcF (f : EF) : En → O (List D) := fun ρ => (f ρ).bind fun x ρ1 => match x with
  | .st (.list ds) => .ok ds ρ1
  | .st (.tuple ds) => .ok ds ρ1
  | .st (.str z) => .ok (signs z) ρ1
  | _ => .bad
def rngOk (i : Int) : Bool := Nat.ble i.natAbs 4000000000000000000
theorem rng_fit {i : Int} (h : -4000000000000000000 ≤ i) (h2 : i ≤ 4000000000000000000) : rngOk i = true := Nat.ble_eq.mpr (by omega)
theorem rng_ok {i : Int} (h : rngOk i = true) : -(2 ^ 62) ≤ i ∧ i < 2 ^ 62 := by
  have h1 : i.natAbs ≤ 4000000000000000000 := Nat.ble_eq.mp h
  omega
def srcR1 (f : EF) : En → O (List D) := fun ρ => (f ρ).bind fun x ρ1 => match x.get ρ1 with
  | some (.int i) => if rngOk i = true then .ok (rng 0 i) ρ1 else .bad
  | _ => .bad
def srcR2 (f g : EF) : En → O (List D) := fun ρ => (f ρ).bind fun x ρ1 => (g ρ1).bind fun y ρ2 => match x.get ρ2, y.get ρ2 with
  | some (.int i), some (.int j) => if rngOk i = true ∧ rngOk j = true then .ok (rng i j) ρ2 else .bad
  | _, _ => .bad
section
variable {X : Cx} {B : Bs} {W : WX} {e e2 tg : Expr} {fa fb : EF} {p pos : Pos}
theorem pid_seq (h : PD X B W e fa) : PID X B W tg e (srcF fa) := PI.imp (PI.or (PI.or (pi_list h) (pi_tup h)) (pi_str h)) fun σ H R' ⟨Hs, ρ, sl, q⟩ => by
  have all : ∀ x ρ1, fa ρ = .ok x ρ1 → (∃ ds, x = .st (.list ds)) ∨ (∃ ds, x = .st (.tuple ds)) ∨ (∃ z, x = .st (.str z)) := fun x ρ1 ex => by
    unfold srcF at q
    rw [ex] at q
    cases x <;> first | exact q.elim | skip
    rename_i d
    cases d <;> first | exact q.elim | skip
    · exact .inr (.inr ⟨_, rfl⟩)
    · exact .inl ⟨_, rfl⟩
    · exact .inr (.inl ⟨_, rfl⟩)
  have go : (∃ (ρ1 : En) (ds : List D), fa ρ = .ok (.st (.tuple ds)) ρ1) ∨ (∃ (ρ1 : En) (z : Str), fa ρ = .ok (.st (.str z)) ρ1) ∨ ((∀ ρ1 ds, fa ρ ≠ .ok (.st (.tuple ds)) ρ1) ∧ ∀ ρ1 z, fa ρ ≠ .ok (.st (.str z)) ρ1) := by
    by_cases h1 : ∃ (ρ1 : En) (ds : List D), fa ρ = .ok (.st (.tuple ds)) ρ1
    · exact .inl h1
    · by_cases h2 : ∃ (ρ1 : En) (z : Str), fa ρ = .ok (.st (.str z)) ρ1
      · exact .inr (.inl h2)
      · exact .inr (.inr ⟨fun ρ1 ds e => h1 ⟨ρ1, ds, e⟩, fun ρ1 z e => h2 ⟨ρ1, z, e⟩⟩)
  rcases go with ⟨ρ0, ds0, e0⟩ | ⟨ρ0, z0, e0⟩ | ⟨n1, n2⟩
  · refine .inl (.inr ⟨Hs, ρ, sl, OP.imp (OP.bind q) fun x ρ1 Hs1 H1 ex sl1 e1 q1 v hv => ?_⟩)
    rw [e0] at ex
    cases ex
    obtain ⟨a, vs, rfl, s, r⟩ := Shal.tup (H := Hs1) (.inl hv) (.refl _)
    exact ⟨a, rfl, ⟨vs, DL.Same.seqT sl1.sub s⟩, q1 Hs1 H1 sl1 (.refl _) _ (walk_tpl s r)⟩
  · refine .inr ⟨Hs, ρ, sl, OP.imp (OP.bind q) fun x ρ1 Hs1 H1 ex sl1 e1 q1 v hv => ?_⟩
    rw [e0] at ex
    cases ex
    exact ⟨_, Shal.str (H := Hs1) (.inl hv), q1 Hs1 H1 sl1 (.refl _) _ walk_sgn⟩
  · refine .inl (.inl ⟨Hs, ρ, sl, OP.imp (OP.bind q) fun x ρ1 Hs1 H1 ex sl1 e1 q1 v hv => ?_⟩)
    rcases all x ρ1 ex with ⟨ds, rfl⟩ | ⟨ds, rfl⟩ | ⟨z, rfl⟩
    · obtain ⟨a, vs, rfl, s, r⟩ := Shal.lst (H := Hs1) (.inl hv) (.refl _)
      exact ⟨a, rfl, ⟨vs, .inl (.inl (sl1.sub _ _ s))⟩, q1 Hs1 H1 sl1 (.refl _) _ (walk_lst s r)⟩
    · exact absurd ex (n1 _ _)
    · exact absurd ex (n2 _ _)
theorem pid_r1 (hg : Gl X "range") (hm : X.mg "range" = none) (h : PD X B W e fa) (hs : starEach [e] X.env = [(false, eval e X.env)] := by rfl) : PID X B W tg (.Call (.Name "range" p) [e] [] pos) (srcR1 fa) :=
  PI.imp (pi_range1 hg hm (pa_cons h pa_nil hs) hs) fun σ H R' ⟨Hs, ρ, sl, q⟩ => by
  refine ⟨Hs, ρ, sl, OP.imp (OP.bind q) fun x ρ1 Hs1 H1 ex sl1 e1 q1 v hv => ?_⟩
  cases eg : x.get ρ1 with
  | none => rw [eg] at q1; exact q1.elim
  | some d =>
    rw [eg] at q1
    cases d <;> first | exact q1.elim | skip
    rename_i i
    dsimp only at q1
    by_cases c : rngOk i = true
    · rw [if_pos c] at q1
      obtain ⟨c1, c2⟩ := rng_ok c
      refine ⟨i, by rw [(sl1.look hv eg).int], c1, c2, ?_⟩
      have w : WalkD X.K (Itr 0 (i - 0).toNat) Hs1 (rng 0 i) := walk_rng
      rw [Int.sub_zero] at w
      exact q1 Hs1 H1 sl1 (.refl _) _ w
    · rw [if_neg c] at q1; exact q1.elim
theorem pid_r2 (hg : Gl X "range") (hm : X.mg "range" = none) (h : PD X B W e fa) (h2 : PD X B W e2 fb) (hs : starEach [e, e2] X.env = [(false, eval e X.env), (false, eval e2 X.env)] := by rfl) (hs2 : starEach [e2] X.env = [(false, eval e2 X.env)] := by rfl) : PID X B W tg (.Call (.Name "range" p) [e, e2] [] pos) (srcR2 fa fb) :=
  PI.imp (pi_range2 hg hm (pa_cons h (pa_cons h2 pa_nil hs2) (by rw [hs, hs2])) hs hs2) fun σ H R' ⟨Hs, ρ, sl, q⟩ => by
  refine ⟨Hs, ρ, sl, OP.imp (OP.bind q) fun x ρ1 Hs1 H1 ex sl1 e1 q1 v hv => ?_⟩
  refine ⟨Hs1, ρ1, sl1, OP.imp (OP.bind q1) fun y ρ2 Hs2 H2 ey sl2 e2 q2 u hu => ?_⟩
  cases eg : x.get ρ2 with
  | none => rw [eg] at q2; exact q2.elim
  | some d =>
    cases eh : y.get ρ2 with
    | none => rw [eg, eh] at q2; cases d <;> exact q2.elim
    | some d2 =>
      rw [eg, eh] at q2
      cases d <;> first | exact q2.elim | skip
      cases d2 <;> first | exact q2.elim | skip
      rename_i i j
      dsimp only at q2
      by_cases c : rngOk i = true ∧ rngOk j = true
      · rw [if_pos c] at q2
        obtain ⟨c1, c2⟩ := rng_ok c.1
        obtain ⟨c3, c4⟩ := rng_ok c.2
        exact ⟨i, j, by rw [(sl2.look (hv.mono e2) eg).int, (sl2.look hu eh).int], ⟨c1, c2, c3, c4⟩, q2 Hs2 H2 sl2 (.refl _) _ walk_rng⟩
      · rw [if_neg c] at q2; exact q2.elim
end

/-! ### built-in functions -/
def rXc (K : Fg) (g : List D → Option D) : List V → Hp → VK → Prop := fun vs H Q => ∃ Hs ds z, Same Hs H ∧ (∀ (i : Nat) v d, vs[i]? = some v → ds[i]? = some d → Shal K Hs H v d) ∧ vs.length = ds.length ∧ g ds = some z ∧ ∀ v Hs' H', Grow Hs H Hs' H' → Rep K Hs' v z → Q v H'
def rXcn (K : Fg) (g : List D → Option D) : List V → Hp → VK → Prop := fun vs H Q => ∃ Hs ds z, Same Hs H ∧ (∀ (i : Nat) v d, vs[i]? = some v → ds[i]? = some d → Shal K Hs H v d) ∧ vs.length = ds.length ∧ g ds = some z ∧ ∀ p H', H p = none → Grow Hs H Hs H' → Cont K Hs H' p z → Q (.ref p) H'
def gets (ρ : En) : List Vl → Option (List D)
  | [] => some []
  | x :: xs => (x.get ρ).bind fun d => (gets ρ xs).map (d :: ·)
def bltF (g : List D → Option D) (fa : AF) : EF := fun ρ => (fa ρ).bind fun xs ρ1 => opt (((gets ρ1 xs).bind g).map Vl.st) ρ1
def bltC (g : List D → Option D) (fa : AF) : CF := fun ρ => (fa ρ).bind fun xs ρ1 => opt ((gets ρ1 xs).bind g) ρ1
section
variable {K : Fg} {mg : MG} {B : Bs} {W : WX} {σ : L2.St} {Hs H : Hp} {ρ : En} {fa : AF} {g : List D → Option D} {Q : VK}
theorem gets_ok (sl : Sl K B Hs H σ ρ) : ∀ {vs : List V} {xs : List Vl} {ds : List D}, VlsOk K Hs σ vs xs → gets ρ xs = some ds → vs.length = ds.length ∧ ∀ (i : Nat) v d, vs[i]? = some v → ds[i]? = some d → Shal K Hs H v d
  | _, [], _, .nil, h => by
    cases h
    exact ⟨rfl, fun i v d a => by simp at a⟩
  | _, x :: xs, _, .cons a b, h => by
    unfold gets at h
    cases ex : x.get ρ with
    | none => rw [ex] at h; cases h
    | some d =>
      rw [ex, Option.bind_some] at h
      cases es : gets ρ xs with
      | none => rw [es] at h; cases h
      | some ds =>
        rw [es] at h
        cases h
        obtain ⟨l, r⟩ := gets_ok sl b es
        refine ⟨congrArg Nat.succ l, fun i v d a1 b1 => ?_⟩
        cases i with
        | zero =>
          simp at a1 b1
          subst a1 b1
          exact sl.look a ex
        | succ i => exact r i v d (by simpa using a1) (by simpa using b1)
theorem blt_read (h : tD K mg B W (bltF g fa) σ H Q) : tCB (rXc K g) (tAD K mg B W fa) σ H Q := by
  obtain ⟨Hs, ρ, sl, q⟩ := h
  refine ⟨Hs, ρ, sl, OP.imp (OP.bind q) fun xs ρ1 Hs1 H1 _ sl1 e1 q1 vs hvs => ?_⟩
  cases es : gets ρ1 xs with
  | none => rw [es] at q1; exact q1.elim
  | some ds =>
    rw [es, Option.bind_some] at q1
    cases eg : g ds with
    | none => rw [eg] at q1; exact q1.elim
    | some z =>
      rw [eg] at q1
      obtain ⟨l, r⟩ := gets_ok sl1 hvs es
      exact ⟨Hs1, ds, z, sl1.sub, r, l, eg, fun v Hs' H' gr rv => q1 Hs' H' (sl1.grow gr) gr.s v rv⟩
theorem bltC_read (h : tC' K mg B W (bltC g fa) σ H Q) : tCB (rXcn K g) (tAD K mg B W fa) σ H Q := by
  obtain ⟨Hs, ρ, sl, q⟩ := h
  refine ⟨Hs, ρ, sl, OP.imp (OP.bind q) fun xs ρ1 Hs1 H1 _ sl1 e1 q1 vs hvs => ?_⟩
  cases es : gets ρ1 xs with
  | none => rw [es] at q1; exact q1.elim
  | some ds =>
    rw [es, Option.bind_some] at q1
    cases eg : g ds with
    | none => rw [eg] at q1; exact q1.elim
    | some z =>
      rw [eg] at q1
      obtain ⟨l, r⟩ := gets_ok sl1 hvs es
      refine ⟨Hs1, ds, z, sl1.sub, r, l, eg, fun p H' np gr cn => ?_⟩
      obtain ⟨f1, f2, f3⟩ := sl1.fresh np
      exact q1 Hs1 H' (sl1.grow gr) (.refl _) p f1 f2 (f3.grow sl1 gr) cn
end
section
variable {X : Cx} {B : Bs} {W : WX} {x : Str} {p pos : Pos} {e : Expr} {es : List Expr} {fa : AF} {id T : String} {g : List D → Option D}
theorem pd_blt (hc : CallR X (.builtin id) (rXc X.K g)) (hg : Gl X x) (hm : X.mg x = none) (hv : bootBuiltins x = some (.builtin id)) (ha : PAD X B W (e :: es) fa) (hn : x ≠ "__name__" := by decide) (hdb : (x == ("__debug__" : Str)) = false := by decide)
    (he : starEach (e :: es) X.env = (false, eval e X.env) :: starEach es X.env := by rfl) (hpl : (backTo pos (starEach es X.env)).any (·.1) = false := by rfl) : PD X B W (.Call (.Name x p) (e :: es) [] pos) (bltF g fa) :=
  PE.imp (pe_callB hc hg hm hv ha hn hdb he hpl) fun _ _ _ h => blt_read h
theorem pd_bty (hc : CallR X (.type T) (rXc X.K g)) (hg : Gl X x) (hm : X.mg x = none) (hv : bootBuiltins x = some (.type T)) (ha : PAD X B W (e :: es) fa) (hn : x ≠ "__name__" := by decide) (hdb : (x == ("__debug__" : Str)) = false := by decide)
    (he : starEach (e :: es) X.env = (false, eval e X.env) :: starEach es X.env := by rfl) (hpl : (backTo pos (starEach es X.env)).any (·.1) = false := by rfl) : PD X B W (.Call (.Name x p) (e :: es) [] pos) (bltF g fa) :=
  PE.imp (pe_callTy hc hg hm hv ha hn hdb he hpl) fun _ _ _ h => blt_read h
theorem pc_bty (hc : CallR X (.type T) (rXcn X.K g)) (hg : Gl X x) (hm : X.mg x = none) (hv : bootBuiltins x = some (.type T)) (ha : PAD X B W (e :: es) fa) (hn : x ≠ "__name__" := by decide) (hdb : (x == ("__debug__" : Str)) = false := by decide)
    (he : starEach (e :: es) X.env = (false, eval e X.env) :: starEach es X.env := by rfl) (hpl : (backTo pos (starEach es X.env)).any (·.1) = false := by rfl) : PC' X B W (.Call (.Name x p) (e :: es) [] pos) (bltC g fa) :=
  PE.imp (pe_callTy hc hg hm hv ha hn hdb he hpl) fun _ _ _ h => bltC_read h
theorem pc_blt (hc : CallR X (.builtin id) (rXcn X.K g)) (hg : Gl X x) (hm : X.mg x = none) (hv : bootBuiltins x = some (.builtin id)) (ha : PAD X B W (e :: es) fa) (hn : x ≠ "__name__" := by decide) (hdb : (x == ("__debug__" : Str)) = false := by decide)
    (he : starEach (e :: es) X.env = (false, eval e X.env) :: starEach es X.env := by rfl) (hpl : (backTo pos (starEach es X.env)).any (·.1) = false := by rfl) : PC' X B W (.Call (.Name x p) (e :: es) [] pos) (bltC g fa) :=
  PE.imp (pe_callB hc hg hm hv ha hn hdb he hpl) fun _ _ _ h => bltC_read h
end
def one (g : D → Option D) : List D → Option D
  | [d] => g d
  | _ => none
theorem rXc.one {K : Fg} {g : D → Option D} {vs : List V} {H : Hp} {Q : VK} (h : rXc K (one g) vs H Q) : ∃ v Hs d z, vs = [v] ∧ Same Hs H ∧ Shal K Hs H v d ∧ g d = some z ∧ ∀ w Hs' H', Grow Hs H Hs' H' → Rep K Hs' w z → Q w H' := by
  obtain ⟨Hs, ds, z, sm, r, l, eg, q⟩ := h
  cases ds with
  | nil => cases eg
  | cons d ds =>
    cases ds with
    | cons d2 ds => cases eg
    | nil =>
      cases vs with
      | nil => cases l
      | cons v vs =>
        cases vs with
        | cons _ _ => cases l
        | nil => exact ⟨v, Hs, d, z, rfl, sm, r 0 v d rfl rfl, eg, q⟩
theorem rXcn.one {K : Fg} {g : D → Option D} {vs : List V} {H : Hp} {Q : VK} (h : rXcn K (one g) vs H Q) : ∃ v Hs d z, vs = [v] ∧ Same Hs H ∧ Shal K Hs H v d ∧ g d = some z ∧ ∀ p H', H p = none → Grow Hs H Hs H' → Cont K Hs H' p z → Q (.ref p) H' := by
  obtain ⟨Hs, ds, z, sm, r, l, eg, q⟩ := h
  cases ds with
  | nil => cases eg
  | cons d ds =>
    cases ds with
    | cons d2 ds => cases eg
    | nil =>
      cases vs with
      | nil => cases l
      | cons v vs =>
        cases vs with
        | cons _ _ => cases l
        | nil => exact ⟨v, Hs, d, z, rfl, sm, r 0 v d rfl rfl, eg, q⟩
/-- len, int, abs, list, tuple -/
def lenD : D → Option D
  | .list ds => some (.int ds.length)
  | .tuple ds => some (.int ds.length)
  | .str z => if z.length ≤ sizeLine then some (.int z.length) else none
  | _ => none
def absD : D → Option D
  | .int i => some (.int (if i < 0 then -i else i))
  | _ => none
def intD : D → Option D
  | .int i => some (.int i)
  | .bool b => some (.int (b2i b))
  | _ => none
def listD : D → Option D
  | .list ds => some (.list ds)
  | .tuple ds => some (.list ds)
  | _ => none
def tupleD : D → Option D
  | .list ds => some (.tuple ds)
  | .tuple ds => some (.tuple ds)
  | _ => none
section
variable {X : Cx}
theorem cx_len : CallR X (.builtin "len") (rXc X.K (one lenD)) := fun pins s σ H vs us Q I r h => by
  obtain ⟨v, Hs, d, z, rfl, sm, sh, eg, q⟩ := h.one
  cases d <;> first | (cases eg; done) | skip
  · rename_i w
    unfold lenD at eg
    dsimp only at eg
    by_cases c : w.length ≤ sizeLine
    · rw [if_pos c] at eg; cases eg
      exact call_len_str pins s σ H [v] us Q I r ⟨w, by rw [sh.str], c, q _ Hs H (.refl sm) (.int _)⟩
    · rw [if_neg c] at eg; cases eg
  · obtain ⟨p, ws, rfl, e, ra⟩ := sh.lst sm
    cases eg
    rw [← ra.length] at q
    exact call_len_seq pins s σ H _ us Q I r ⟨p, ws, rfl, .inl (.inl (.inl e)), q _ Hs H (.refl sm) (.int _)⟩
  · obtain ⟨p, ws, rfl, e, ra⟩ := sh.tup sm
    cases eg
    rw [← ra.length] at q
    exact call_len_seq pins s σ H _ us Q I r ⟨p, ws, rfl, .inr e, q _ Hs H (.refl sm) (.int _)⟩
theorem cx_abs : CallR X (.builtin "abs") (rXc X.K (one absD)) := fun pins s σ H vs us Q I r h => by
  obtain ⟨v, Hs, d, z, rfl, sm, sh, eg, q⟩ := h.one
  cases d <;> cases eg
  exact call_abs pins s σ H _ us Q I r ⟨_, by rw [sh.int], q _ Hs H (.refl sm) (.int _)⟩
theorem cx_int : CallR X (.type "int") (rXc X.K (one intD)) := fun pins s σ H vs us Q I r h => by
  obtain ⟨v, Hs, d, z, rfl, sm, sh, eg, q⟩ := h.one
  cases d <;> cases eg
  · refine call_int1 pins s σ H _ us Q I r (.inr ⟨_, by rw [sh.bl], ?_⟩)
    exact q _ Hs H (.refl sm) (.int _)
  · exact call_int1 pins s σ H _ us Q I r (.inl ⟨_, by rw [sh.int], q _ Hs H (.refl sm) (.int _)⟩)
theorem cx_list : CallR X (.type "list") (rXcn X.K (one listD)) := fun pins s σ H vs us Q I r h => by
  obtain ⟨v, Hs, d, z, rfl, sm, sh, eg, q⟩ := h.one
  cases d <;> cases eg
  · obtain ⟨p, ws, rfl, e, ra⟩ := sh.lst sm
    exact call_list_of pins s σ H _ us Q I r ⟨p, ws, rfl, .inl (.inl (.inl e)), fun l nl => q l _ nl (.loose sm nl) ⟨ws, upd_same, ra⟩⟩
  · obtain ⟨p, ws, rfl, e, ra⟩ := sh.tup sm
    exact call_list_of pins s σ H _ us Q I r ⟨p, ws, rfl, .inr e, fun l nl => q l _ nl (.loose sm nl) ⟨ws, upd_same, ra⟩⟩
theorem cx_tuple : CallR X (.type "tuple") (rXc X.K (one tupleD)) := fun pins s σ H vs us Q I r h => by
  obtain ⟨v, Hs, d, z, rfl, sm, sh, eg, q⟩ := h.one
  cases d <;> cases eg
  · obtain ⟨p, ws, rfl, e, ra⟩ := sh.lst sm
    refine call_tuple_of pins s σ H _ us Q I r ⟨p, ws, rfl, .inl ⟨.inl (.inl e), fun l nl => ?_⟩⟩
    have g := Grow.laid (o := .tup ws) sm nl
    exact q _ _ _ g (.tup upd_same (ra.mono g.s))
  · rcases sh with rp | ⟨_, _, c⟩
    · obtain ⟨p, ws, rfl, e, ra⟩ := Shal.tup (.inl rp) sm
      exact call_tuple_of pins s σ H _ us Q I r ⟨p, ws, rfl, .inr ⟨e, q _ Hs H (.refl sm) rp⟩⟩
    · exact c.elim
/-! a list of ints, of bools -/
def intsOf : List D → Option (List Int)
  | [] => some []
  | .int i :: ds => (intsOf ds).map (i :: ·)
  | _ => none
def boolsOf : List D → Option (List Bool)
  | [] => some []
  | .bool i :: ds => (boolsOf ds).map (i :: ·)
  | _ => none
theorem intsOf_map : ∀ {ds : List D} {ns : List Int}, intsOf ds = some ns → ds = ns.map PyData.int
  | [], _, h => by cases h; rfl
  | d :: ds, ns, h => by
    cases d <;> first | (cases h; done) | skip
    rename_i i
    cases e : intsOf ds with
    | none => simp only [intsOf, e, Option.map_none] at h; cases h
    | some ms =>
      simp only [intsOf, e, Option.map_some, Option.some.injEq] at h
      subst h
      rw [List.map_cons, ← intsOf_map e]
theorem boolsOf_map : ∀ {ds : List D} {ns : List Bool}, boolsOf ds = some ns → ds = ns.map PyData.bool
  | [], _, h => by cases h; rfl
  | d :: ds, ns, h => by
    cases d <;> first | (cases h; done) | skip
    rename_i i
    cases e : boolsOf ds with
    | none => simp only [boolsOf, e, Option.map_none] at h; cases h
    | some ms =>
      simp only [boolsOf, e, Option.map_some, Option.some.injEq] at h
      subst h
      rw [List.map_cons, ← boolsOf_map e]
theorem ints_of (ns : List Int) : intsOf (ns.map PyData.int) = some ns := by
  induction ns with
  | nil => rfl
  | cons n ns ih => simp only [List.map_cons, intsOf, ih, Option.map_some]
theorem bools_of (ns : List Bool) : boolsOf (ns.map PyData.bool) = some ns := by
  induction ns with
  | nil => rfl
  | cons n ns ih => simp only [List.map_cons, boolsOf, ih, Option.map_some]
def sumD : D → Option D
  | .list ds => (intsOf ds).map fun ns => .int ns.sum
  | _ => none
def allD : D → Option D
  | .list ds => (boolsOf ds).map fun ns => .bool (ns.all id)
  | _ => none
def anyD : D → Option D
  | .list ds => (boolsOf ds).map fun ns => .bool (ns.any id)
  | _ => none
theorem cx_sum (hc : X.calm = true) : CallR X (.builtin "sum") (rXc X.K (one sumD)) := fun pins s σ H vs us Q I r h => by
  obtain ⟨v, Hs, d, z, rfl, sm, sh, eg, q⟩ := h.one
  cases d <;> first | (cases eg; done) | skip
  rename_i ds
  unfold sumD at eg
  dsimp only at eg
  cases en : intsOf ds with
  | none => rw [en] at eg; cases eg
  | some ns =>
    rw [en] at eg
    cases eg
    obtain ⟨p, ws, rfl, e, ra⟩ := sh.lst sm
    rw [intsOf_map en] at ra
    rw [ra.ints] at e
    exact cr_sum hc pins s σ H _ us Q I r ⟨p, ns, rfl, .inl (.inl e), q _ Hs H (.refl sm) (.int _)⟩
theorem cx_all (hc : X.calm = true) : CallR X (.builtin "all") (rXc X.K (one allD)) := fun pins s σ H vs us Q I r h => by
  obtain ⟨v, Hs, d, z, rfl, sm, sh, eg, q⟩ := h.one
  cases d <;> first | (cases eg; done) | skip
  rename_i ds
  unfold allD at eg
  dsimp only at eg
  cases en : boolsOf ds with
  | none => rw [en] at eg; cases eg
  | some ns =>
    rw [en] at eg
    cases eg
    obtain ⟨p, ws, rfl, e, ra⟩ := sh.lst sm
    rw [boolsOf_map en] at ra
    rw [ra.bls] at e
    exact cr_all hc pins s σ H _ us Q I r ⟨p, ns, rfl, .inl (.inl e), q _ Hs H (.refl sm) (.bl _)⟩
theorem cx_any (hc : X.calm = true) : CallR X (.builtin "any") (rXc X.K (one anyD)) := fun pins s σ H vs us Q I r h => by
  obtain ⟨v, Hs, d, z, rfl, sm, sh, eg, q⟩ := h.one
  cases d <;> first | (cases eg; done) | skip
  rename_i ds
  unfold anyD at eg
  dsimp only at eg
  cases en : boolsOf ds with
  | none => rw [en] at eg; cases eg
  | some ns =>
    rw [en] at eg
    cases eg
    obtain ⟨p, ws, rfl, e, ra⟩ := sh.lst sm
    rw [boolsOf_map en] at ra
    rw [ra.bls] at e
    exact cr_any hc pins s σ H _ us Q I r ⟨p, ns, rfl, .inl (.inl e), q _ Hs H (.refl sm) (.bl _)⟩
end
end DL

/-! DL11 -/
namespace DL
open PySem PySem.Spec PyProof.Rows L2

/-! ### isinstance -/
inductive Ty5 where
  | int | bool | str | list | tuple
def Ty5.nm : Ty5 → String
  | .int => "int"
  | .bool => "bool"
  | .str => "str"
  | .list => "list"
  | .tuple => "tuple"
def isi : Ty5 → D → Option Bool
  | _, .dict _ => Option.none
  | .int, .int _ => some true
  | .int, .bool _ => some true
  | .bool, .bool _ => some true
  | .str, .str _ => some true
  | .list, .list _ => some true
  | .tuple, .tuple _ => some true
  | _, _ => some false
def isiAny : List Ty5 → D → Option Bool
  | [], _ => some false
  | T :: Ts, d => match isi T d with
    | some true => some true
    | some false => isiAny Ts d
    | none => none
def tyNm : D → String
  | .none => "NoneType"
  | .bool _ => "bool"
  | .int _ => "int"
  | .str _ => "str"
  | .list _ => "list"
  | .tuple _ => "tuple"
  | .dict _ => "dict"
theorem isi_kit {T : Ty5} {d : D} {b : Bool} (h : isi T d = some b) : L2.kitB (tyNm d) T.nm = some b := by
  cases T <;> cases d <;> first | (cases h; done) | (cases h; dsimp only [tyNm, Ty5.nm]; decide +kernel)
theorem Shal.ty {K : Fg} {Hs H : Hp} {v : V} {d : D} (s : Shal K Hs H v d) (e : Same Hs H) : (∃ kvs, d = .dict kvs) ∨ TyX K H v (.type (tyNm d)) := by
  have r := s.rep e
  cases r with
  | non => exact .inr (.base .non)
  | bl b => exact .inr (.base (.bl b))
  | int i => exact .inr (.base (.int i))
  | str x => exact .inr (.base (.str x))
  | lst h _ => exact .inr (.base (.lst h))
  | tup h _ => exact .inr (.base (.tup h))
  | dK _ _ => exact .inl ⟨_, rfl⟩
  | dT _ _ => exact .inl ⟨_, rfl⟩
  | ins _ _ _ => exact .inl ⟨_, rfl⟩
def isiD (T : Ty5) (d : D) : Option D := (isi T d).map PyData.bool
def isiAnyD (Ts : List Ty5) (d : D) : Option D := (isiAny Ts d).map PyData.bool
section
variable {X : Cx} {B : Bs} {W : WX} {e c : Expr} {fa : EF} {T : Ty5} {Ts : List Ty5}
theorem pd_isi (h : PE X c (tCB (rIsi X.K) (tCons (tD X.K X.mg B W fa) (tCons (tC (.ty T.nm)) tNil)))) : PD X B W c (op1 (isiD T) fa) := PE.imp h fun σ H Q ⟨Hs, ρ, sl, q⟩ => by
  refine ⟨Hs, ρ, sl, OP.imp (OP.bind q) fun x ρ1 Hs1 H1 _ sl1 e1 q1 v hv => ?_⟩
  cases ex : x.get ρ1 with
  | none => rw [ex] at q1; exact q1.elim
  | some d =>
    rw [ex, Option.bind_some] at q1
    unfold isiD at q1
    cases ei : isi T d with
    | none => rw [ei] at q1; exact q1.elim
    | some b =>
      rw [ei] at q1
      rcases (sl1.look hv ex).ty sl1.sub with ⟨kvs, rfl⟩ | ht
      · cases T <;> cases ei
      · exact ⟨v, .ty T.nm, _, .type T.nm, b, rfl, .ty T.nm, ht, kit_ty (isi_kit ei), q1 Hs1 H1 sl1 (.refl _) _ (.bl b)⟩
theorem tyx_grow {H : Hp} {p : Addr} {o : HO} {v : V} {t : Value} (n : H p = none) (h : TyX X.K H v t) : TyX X.K (upd H p o) v t := by
  have k : ∀ {a u}, H a = some u → upd H p o a = some u := fun {a u} e => by rw [upd_ne (ne_of_none e n)]; exact e
  cases h with
  | base b =>
    cases b with
    | non => exact .base .non
    | bl x => exact .base (.bl x)
    | int x => exact .base (.int x)
    | str x => exact .base (.str x)
    | flt x => exact .base (.flt x)
    | lst e => exact .base (.lst (k e))
    | frz e => exact .base (.frz (k e))
    | tup e => exact .base (.tup (k e))
    | dK e => exact .base (.dK (k e))
    | dT e => exact .base (.dT (k e))
    | ins e a b c d f => exact .base (.ins (k e) a b c d f)
  | byt b => exact .byt b
  | set e => exact .set (k e)
  | kList e c => exact .kList e c
  | kTuple e c => exact .kTuple e c
  | kDict e c => exact .kDict e c
  | fTuple e => exact .fTuple (k e)
  | fDict e => exact .fDict (k e)
theorem kitAny_of {K : Fg} {d : D} : ∀ {Ts : List Ty5} {b : Bool}, isiAny Ts d = some b → PySem.W.kitAny K (.type (tyNm d)) ((Ts.map Ty5.nm).map Value.type) = some b
  | [], b, h => h
  | T :: Ts, b, h => by
    unfold isiAny at h
    cases e : isi T d with
    | none => rw [e] at h; cases h
    | some c =>
      rw [e] at h
      refine kitAny_cons (kit_ty (isi_kit e)) (fun z => ?_) (fun z => ?_)
      · subst z; exact kitAny_of h
      · subst z; cases h; rfl
theorem clsv_all : ∀ Ts : List String, Paired ClsV (Ts.map V.ty) (Ts.map Value.type)
  | [] => .nil
  | T :: Ts => .cons (.ty T) (clsv_all Ts)
/-- isinstance(x, (T1, T2)): ta is the tuple's items -/
theorem pd_isiT {ta : TA} {T0 : Ty5} (h : PE X c (tCB (rIsiT X.K) (tCons (tD X.K X.mg B W fa) (tCons (tTup ta) tNil)))) (hta : ∀ σ H Q, Q (((T0 :: Ts).map Ty5.nm).map V.ty) H → ta σ H Q) (hl : (T0 :: Ts).length ≤ 1000) : PD X B W c (op1 (isiAnyD (T0 :: Ts)) fa) := PE.imp h fun σ H Q ⟨Hs, ρ, sl, q⟩ => by
  refine ⟨Hs, ρ, sl, OP.imp (OP.bind q) fun x ρ1 Hs1 H1 _ sl1 e1 q1 v hv => ?_⟩
  cases ex : x.get ρ1 with
  | none => rw [ex] at q1; exact q1.elim
  | some d =>
    rw [ex, Option.bind_some] at q1
    unfold isiAnyD at q1
    cases ei : isiAny (T0 :: Ts) d with
    | none => rw [ei] at q1; exact q1.elim
    | some b =>
      rw [ei] at q1
      refine hta σ H1 _ ⟨?_, fun p np => ?_⟩
      · rw [List.length_map, List.length_map]
        exact Nat.le_of_lt (small1000 hl)
      · rcases (sl1.look hv ex).ty sl1.sub with ⟨kvs, rfl⟩ | ht
        · cases T0 <;> cases ei
        · have g : Grow Hs1 H1 Hs1 (upd H1 p (.tup (((T0 :: Ts).map Ty5.nm).map V.ty))) := Grow.loose sl1.sub np
          exact ⟨v, p, _, _, ((T0 :: Ts).map Ty5.nm).map Value.type, b, rfl, upd_same, clsv_all _, tyx_grow np ht, kitAny_of ei, q1 Hs1 _ (sl1.grow g) (.refl _) _ (.bl b)⟩
end

/-! ### in, not in -/
def inOk (d : D) (ds : List D) : Bool := plain d && plainA ds && SeqAt.shaped d && SeqAt.shaped (.list ds)
def inD : D → D → Option D
  | d, .list ds => if inOk d ds = true then some (.bool (ds.any fun z => PyData.eqv z d)) else none
  | d, .tuple ds => if flat d = true ∧ ds.all flat = true then some (.bool (ds.any fun z => PyData.eqv z d)) else none
  | .str ⟨#[c]⟩, .str z => some (.bool (decide (c ∈ z.cps.toList)))
  | _, _ => none
def notInD (d e : D) : Option D := (inD d e).bind notD
theorem inV_any {K : Fg} {H : Hp} : ∀ {vs : List V} {ds : List D} {x : V} {d : D}, RepA K H vs ds → Rep K H x d → flat d = true → ds.all flat = true → flatV x = true ∧ vs.all flatV = true ∧ inV x vs = ds.any fun z => PyData.eqv z d
  | _, _, x, d, .nil, r, h, _ => by
    refine ⟨?_, rfl, rfl⟩
    cases r <;> first | rfl | cases h
  | _, _, x, d, .cons a b, r, h, hs => by
    rw [List.all_cons, Bool.and_eq_true] at hs
    obtain ⟨h1, h2, h3⟩ := inV_any b r h hs.2
    refine ⟨h1, ?_, ?_⟩
    · rw [List.all_cons, h2, Bool.and_true]
      have := hs.1
      cases a <;> first | rfl | cases this
    · unfold inV at h3 ⊢
      rw [List.any_cons, List.any_cons, h3]
      have := hs.1
      congr 1
      cases a <;> first | (cases this; done) | skip
      all_goals (cases r <;> first | (cases h; done) | rfl)
section
variable {X : Cx}
theorem ox_in (hu : X.A.units + 65 < cLine) : OpX X (compareOp .In) inD := fun pins s σ H x y v u Q I rx ry q => by
  obtain ⟨Hs, d, e, z, sb, sx, sy, ez, q⟩ := q
  cases e <;> first | (cases d <;> cases ez; done) | skip
  · rename_i w
    cases d <;> first | (cases ez; done) | skip
    rename_i t
    obtain ⟨⟨l⟩⟩ := t
    cases l with
    | nil => cases ez
    | cons c l =>
      cases l with
      | cons _ _ => cases ez
      | nil =>
        cases ez
        exact op_in_sign pins s σ H x y v u Q I rx ry ⟨c, w, sx.str, sy.str, q _ Hs H (.refl sb) (.bl _)⟩
  · rename_i ds
    have ez : (if inOk d ds = true then some (PyData.bool (ds.any fun z => PyData.eqv z d)) else none) = some z := by cases d <;> exact ez
    by_cases c : inOk d ds = true
    · rw [if_pos c] at ez; cases ez
      unfold inOk at c
      simp only [Bool.and_eq_true] at c
      have hy : Dp X.K H y (.list ds) := (sy.rep sb).dp c.1.1.2
      exact op_inD hu pins s σ H x y v u Q I rx ry ⟨d, ds, (sx.rep sb).dp c.1.1.1, hy, c.1.2, c.2, q _ Hs H (.refl sb) (.bl _)⟩
    · rw [if_neg c] at ez; cases ez
  · rename_i ds
    have ez : (if flat d = true ∧ ds.all flat = true then some (PyData.bool (ds.any fun z => PyData.eqv z d)) else none) = some z := by cases d <;> exact ez
    by_cases c : flat d = true ∧ ds.all flat = true
    · rw [if_pos c] at ez; cases ez
      obtain ⟨p, vs, rfl, h1, r⟩ := sy.tup sb
      obtain ⟨f1, f2, f3⟩ := inV_any (r.mono sb) (sx.rep sb) c.1 c.2
      refine op_in_seq pins s σ H x _ v u Q I rx ry ⟨p, vs, rfl, .inr h1, f1, f2, ?_⟩
      show Q (.bl (inV x vs)) H
      rw [f3]
      exact q _ Hs H (.refl sb) (.bl _)
    · rw [if_neg c] at ez; cases ez
theorem ox_notin (hu : X.A.units + 65 < cLine) : OpX X (compareOp .NotIn) notInD := fun pins s σ H x y v u Q I rx ry q => by
  obtain ⟨Hs, d, e, z, sb, sx, sy, ez, q⟩ := q
  unfold notInD at ez
  cases e <;> first | (cases d <;> cases ez; done) | skip
  · rename_i w
    cases d <;> first | (cases ez; done) | skip
    rename_i t
    obtain ⟨⟨l⟩⟩ := t
    cases l with
    | nil => cases ez
    | cons c l =>
      cases l with
      | cons _ _ => cases ez
      | nil =>
        cases ez
        exact op_notIn_sign pins s σ H x y v u Q I rx ry ⟨c, w, sx.str, sy.str, q _ Hs H (.refl sb) (.bl _)⟩
  · rename_i ds
    have ez : (if inOk d ds = true then some (PyData.bool (ds.any fun z => PyData.eqv z d)) else none).bind notD = some z := by cases d <;> exact ez
    by_cases c : inOk d ds = true
    · rw [if_pos c] at ez; cases ez
      unfold inOk at c
      simp only [Bool.and_eq_true] at c
      have hy : Dp X.K H y (.list ds) := (sy.rep sb).dp c.1.1.2
      exact op_notInD hu pins s σ H x y v u Q I rx ry ⟨d, ds, (sx.rep sb).dp c.1.1.1, hy, c.1.2, c.2, q _ Hs H (.refl sb) (.bl _)⟩
    · rw [if_neg c] at ez; cases ez
  · rename_i ds
    have ez : (if flat d = true ∧ ds.all flat = true then some (PyData.bool (ds.any fun z => PyData.eqv z d)) else none).bind notD = some z := by cases d <;> exact ez
    by_cases c : flat d = true ∧ ds.all flat = true
    · rw [if_pos c] at ez; cases ez
      obtain ⟨p, vs, rfl, h1, r⟩ := sy.tup sb
      obtain ⟨f1, f2, f3⟩ := inV_any (r.mono sb) (sx.rep sb) c.1 c.2
      refine op_notIn_seq pins s σ H x _ v u Q I rx ry ⟨p, vs, rfl, .inr h1, f1, f2, ?_⟩
      show Q (.bl (!inV x vs)) H
      rw [f3]
      exact q _ Hs H (.refl sb) (.bl _)
    · rw [if_neg c] at ez; cases ez
end

/-! ### raise -/
def raiseS (e : Er) : SF := fun ρ => .er e ρ
section
variable {X : Cx} {B : Bs} {W : WX}
/-- X() of an own error class -/
theorem pmk_own0 {C : Addr} {bmB : List Value} {Bn newId initId : String} {x : Str} {p pos : Pos} (F : ExcBaseFacts Bn newId initId bmB) (q : PySem.W.excIn X.K C bmB newId = true) (gC : X.mg x = some (.ref C)) (kC : PySem.W.keepIn X.K (.ref C) = true) (r : Raises X (.ref C)) (hg : Gl X x)
    (hdb : (x == ("__debug__" : Str)) = false := by decide) : L2N.PMk X (.Call (.Name x p) [] [] pos) (fun _ H Q => Q (.ref C) none H) := by
  intro pins s σ H Q I h
  refine wpAny_Call_Name_kw (ld_glob I hg gC ?_ hdb)
  refine PySem.W.callWith_K0 I.kIn kC ?_
  obtain ⟨bm, N, nm, qn, bs, hdct, sn, sub, ab, col, dd, k0, k1, k2, k3, k5, mN, hC, hN, hni, T⟩ := exc_obj I.kIn q
  refine wpAny_call_exc_subT F T hC hN hni (fun h' e hm => ?_) (by show 0 ≤ sizeLine; omega)
  exact L2N.mk_of I hm r h (I.hok.gone hm.new)
theorem psd_raise0 {e : Expr} {x : Str} {C : Addr} {pos : Pos} (hc : X.calm = true) (tk : L2N.Takes X W) (gC : X.mg x = some (.ref C)) (h : L2N.PMk X e (fun _ H Q => Q (.ref C) none H)) : PSD X B W (.Raise (some e) none pos) (raiseS ⟨x, []⟩) :=
  PS.imp (L2N.ps_raise hc tk h) fun D' σ H ⟨Hs, ρ, sl, q⟩ => q _ _ σ Hs H sl (.refl _) ⟨⟨C, gC, rfl⟩, .inl ⟨rfl, rfl⟩⟩
end

/-! ### zip -/
section
variable {K : Fg} {Hs : Hp}
theorem walk_zipG {J : It} {xs ys : List V} {ds es : List D} (w : ∀ H, Same Hs H → (∀ i, i < min xs.length ys.length → J.go i H) ∧ J.stop (min xs.length ys.length) H ∧ ∀ i x H', i < min xs.length ys.length → J.yld i H x H' → YPair (fun i => xs[i]?) (fun i => ys[i]?) i H x H')
    (r1 : RepA K Hs xs ds) (r2 : RepA K Hs ys es) : WalkD K J Hs ((ds.zip es).map fun p => .tuple [p.1, p.2]) := by
  have ll : ((ds.zip es).map fun p => PyData.tuple [p.1, p.2]).length = min xs.length ys.length := by rw [List.length_map, List.length_zip, r1.length, r2.length]
  refine ⟨fun i H hi s => (w H s).1 i (by rw [← ll]; exact hi), fun H s => by rw [ll]; exact (w H s).2.1, fun i H x H' d hd s y Hs1 s1 s2 => ?_⟩
  have hi : i < min xs.length ys.length := by rw [← ll]; exact (List.getElem?_eq_some_iff.mp hd).1
  obtain ⟨T, a, b, rfl, nT, rfl, ea, eb⟩ := (w H s).2.2 i x H' hi y
  rw [List.getElem?_map] at hd
  have h1 : i < ds.length := by rw [← r1.length]; omega
  have h2 : i < es.length := by rw [← r2.length]; omega
  have ez : (ds.zip es)[i]? = some (ds[i], es[i]) := by
    rw [List.getElem?_zip_eq_some]
    exact ⟨by simp [h1], by simp [h2]⟩
  rw [ez] at hd
  cases hd
  obtain ⟨a', ea', ra⟩ := r1.get (i := i) (d := ds[i]) (by simp [h1])
  obtain ⟨b', eb', rb⟩ := r2.get (i := i) (d := es[i]) (by simp [h2])
  have ea : xs[i]? = some a := ea
  have eb : ys[i]? = some b := eb
  rw [ea'] at ea
  rw [eb'] at eb
  cases ea
  cases eb
  have g := Grow.laid (o := .tup [a, b]) s2 nT
  exact ⟨_, g, .tup upd_same (.cons (ra.mono (s1.trans g.s)) (.cons (rb.mono (s1.trans g.s)) .nil))⟩
end
def zipD (ds es : List D) : List D := (ds.zip es).map fun p => .tuple [p.1, p.2]
def srcZ (f g : EF) : En → O (List D) := fun ρ => (f ρ).bind fun x ρ1 => (g ρ1).bind fun y ρ2 => match x, y with
  | .st (.list ds), .st (.list es) => .ok (zipD ds es) ρ2
  | .st (.tuple ds), .st (.tuple es) => .ok (zipD ds es) ρ2
  | _, _ => .bad
section
variable {X : Cx} {B : Bs} {W : WX} {e e2 : Expr} {fa fb : EF} {p pos tpos : Pos} {elts : List Expr} {kk : Nat}
theorem pid_zip {z : Expr} (h : PI X (.Tuple elts kk tpos) z (RZ.iZipA X.K (tCons (tD X.K X.mg B W fa) (tCons (tD X.K X.mg B W fb) tNil)))) : PID X B W (.Tuple elts kk tpos) z (srcZ fa fb) := PI.imp h fun σ H R' ⟨Hs, ρ, sl, q⟩ => by
  refine ⟨Hs, ρ, sl, OP.imp (OP.bind q) fun x ρ1 Hs1 H1 _ sl1 e1 q1 v hv => ?_⟩
  refine ⟨Hs1, ρ1, sl1, OP.imp (OP.bind q1) fun y ρ2 Hs2 H2 _ sl2 e2 q2 u hu => ?_⟩
  cases x <;> first | exact q2.elim | skip
  rename_i d ex
  clear ex
  cases y <;> first | (cases d <;> exact q2.elim) | skip
  rename_i d2 ey
  clear ey
  cases d <;> cases d2 <;> first | exact q2.elim | skip
  · rename_i ds es
    have hv : Rep X.K Hs2 v (.list ds) := Rep.mono e2 hv
    obtain ⟨a, xs, rfl, s1, r1⟩ := Shal.lst (H := Hs2) (.inl hv) (.refl _)
    obtain ⟨b, ys, rfl, s2, r2⟩ := Shal.lst (H := Hs2) (.inl hu) (.refl _)
    refine ⟨a, b, xs, ys, rfl, .inl ⟨.inl (.inl (sl2.sub _ _ s1)), .inl (.inl (sl2.sub _ _ s2)), ?_⟩⟩
    refine q2 Hs2 H2 sl2 (.refl _) _ (walk_zipG (fun H' sm => ?_) r1 r2)
    have w := walk_zip (K := X.K) (a := a) (b := b) (xs := xs) (ys := ys) rfl
    have G : SqL X.K H' a xs ∧ SqL X.K H' b ys := ⟨.inl (.inl (sm _ _ s1)), .inl (.inl (sm _ _ s2))⟩
    exact ⟨fun i hi => w.goes i H' hi G, w.stops H' G, fun i x H'' hi y => w.yields i H' x H'' hi G y⟩
  · rename_i ds es
    have hv : Rep X.K Hs2 v (.tuple ds) := Rep.mono e2 hv
    obtain ⟨a, xs, rfl, s1, r1⟩ := Shal.tup (H := Hs2) (.inl hv) (.refl _)
    obtain ⟨b, ys, rfl, s2, r2⟩ := Shal.tup (H := Hs2) (.inl hu) (.refl _)
    refine ⟨a, b, xs, ys, rfl, .inr ⟨DL.Same.seqT sl2.sub s1, DL.Same.seqT sl2.sub s2, ?_⟩⟩
    refine q2 Hs2 H2 sl2 (.refl _) _ (walk_zipG (fun H' sm => ?_) r1 r2)
    have G1 : SqT X.K H' a xs := DL.Same.seqT sm s1
    have G2 : SqT X.K H' b ys := DL.Same.seqT sm s2
    refine ⟨fun i hi => ?_, ⟨xs, ys, G1, G2, by omega⟩, fun i x H'' hi y => ?_⟩
    · have h1 : i < xs.length := by omega
      have h2 : i < ys.length := by omega
      exact ⟨xs, ys, xs[i], ys[i], G1, G2, by simp [h1], by simp [h2]⟩
    · obtain ⟨T, x, z, h1, h2, h3, h4, h5⟩ := y
      exact ⟨T, x, z, h1, h2, h3, h4 xs G1, h5 ys G2⟩
end
end DL

/-! DL12 -/
namespace DL
open PySem PySem.Spec PyProof.Rows L2

theorem hu65 {A : Around} {k : Nat} (hr : Room k A) : A.units + 65 < cLine := by
  have := hr.un
  omega

/-! ### slices of any sequence -/
def cutA (d : D) (lo hi : Option Int) : Option D := match d with
  | .tuple ds => some (.tuple (cutD ds lo hi))
  | .list ds => some (.list (cutD ds lo hi))
  | .str z => if z.length ≤ sizeLine then some (.str (cutS z lo hi)) else none
  | _ => none
section
variable {X : Cx} {B : Bs} {W : WX} {a b c e : Expr} {es : List Expr} {fa fb fc : EF} {fr : AF} {pos : Pos} {cf : CF}
theorem pd_sl {lo hi : Option Expr} {l h : Option EF} {p2 : Pos} (ha : PD X B W a fa) (hl : POD X B W lo l) (hh : POD X B W hi h) : PD X B W (.Subscript a (.Slice lo hi none p2) pos) (slF cutA fa l h) :=
  PE.imp (pe_slice (SlR.or (SlR.or sl_tupA sl_str) sl_list) ha hl hh) fun σ H Q ⟨Hs, ρ, sl, q⟩ => by
  refine ⟨Hs, ρ, sl, OP.imp (OP.bind q) fun x ρ1 Hs1 H1 _ sl1 e1 q1 v hv => ?_⟩
  refine ⟨Hs1, ρ1, sl1, OP.imp (OP.bind q1) fun lo' ρ2 Hs2 H2 _ sl2 e2 q2 => ?_⟩
  refine ⟨Hs2, ρ2, sl2, OP.imp (OP.bind q2) fun hi' ρ3 Hs3 H3 _ sl3 e3 q3 => ?_⟩
  cases ex : x.get ρ3 with
  | none => rw [ex] at q3; exact q3.elim
  | some d =>
    rw [ex, Option.bind_some] at q3
    have s := sl3.look (hv.mono (e2.trans e3)) ex
    cases d <;> first | exact q3.elim | skip
    · rename_i z
      unfold cutA at q3
      dsimp only at q3
      by_cases c : z.length ≤ sizeLine
      · rw [if_pos c] at q3
        exact .inl (.inr ⟨z, s.str, c, q3 Hs3 H3 sl3 (.refl _) _ (.str _)⟩)
      · rw [if_neg c] at q3; exact q3.elim
    · rename_i ds
      obtain ⟨p, vs, e4, h4, r⟩ := s.lst sl3.sub
      refine .inr ⟨p, vs, e4, .inl (.inl h4), fun p' np => ?_⟩
      have g : Grow Hs3 H3 _ _ := Grow.laid (o := .lst (cutV vs lo' hi')) sl3.sub np
      exact q3 _ _ (sl3.grow g) g.s _ (.lst upd_same ((r.cut lo' hi').mono g.s))
    · rename_i ds
      obtain ⟨p, vs, e4, h4, r⟩ := s.tup sl3.sub
      refine .inl (.inl ⟨p, vs, e4, h4, fun hw => ?_, fun hw p' np => ?_⟩)
      · rw [r.length] at hw
        have q4 := q3 Hs3 H3 sl3 (.refl _)
        unfold cutA at q4
        dsimp only at q4
        rw [cut_whole hw] at q4
        rcases s with s | ⟨_, _, c⟩
        · rw [e4] at s
          exact q4 _ s
        · exact c.elim
      · have g : Grow Hs3 H3 _ _ := Grow.laid (o := .tup (cutV vs lo' hi')) sl3.sub np
        exact q3 _ _ (sl3.grow g) g.s _ (.tup upd_same ((r.cut lo' hi').mono g.s))
end

/-! ### in-place operators on ints -/
section
variable {X : Cx}
theorem ix_sub : OpX X (inplaceOp .Sub) subD := OpX.int (C := fun _ _ => True) (h := fun i j => i - j) (fun pins s σ H x y v u Q I rx ry ⟨i, j, a, b, _, q⟩ => iop_sub pins s σ H x y v u Q I rx ry ⟨i, j, a, b, q⟩) fun d e z h => by
  cases d <;> cases e <;> cases h
  exact ⟨_, _, rfl, rfl, trivial, rfl⟩
theorem ix_addI : OpX X (inplaceOp .Add) addI := OpX.int (C := fun _ _ => True) (h := fun i j => i + j) (fun pins s σ H x y v u Q I rx ry ⟨i, j, a, b, _, q⟩ => iop_add pins s σ H x y v u Q I rx ry ⟨i, j, a, b, q⟩) fun d e z h => by
  cases d <;> cases e <;> cases h
  exact ⟨_, _, rfl, rfl, trivial, rfl⟩
theorem ix_div : OpX X (inplaceOp .FloorDiv) divD := OpX.int iop_fdivW fun d e z h => by
  cases d <;> cases e <;> first | cases h | skip
  rename_i i j
  unfold divD at h
  dsimp only at h
  by_cases c : divOk j = true
  · rw [if_pos c] at h; cases h
    unfold divOk at c
    obtain ⟨c1, c2⟩ := Bool.and_eq_true_iff.mp c
    exact ⟨_, _, rfl, rfl, ⟨of_decide_eq_true c1, of_decide_eq_true c2⟩, rfl⟩
  · rw [if_neg c] at h; cases h
theorem ix_mod : OpX X (inplaceOp .Mod) modD := OpX.int iop_mod fun d e z h => by
  cases d <;> cases e <;> first | cases h | skip
  rename_i i j
  unfold modD at h
  dsimp only at h
  by_cases c : 0 < j
  · rw [if_pos c] at h; cases h
    exact ⟨_, _, rfl, rfl, c, rfl⟩
  · rw [if_neg c] at h; cases h
end

/-! ### products -/
def mulD : D → D → Option D
  | .int i, .int j => if mulOk i j = true then some (.int (i * j)) else none
  | .list ds, .int k => if 0 ≤ k ∧ k ≤ 1000 ∧ ds.length ≤ 1000 then some (.list (List.replicate k.toNat ds).flatten) else none
  | .tuple ds, .int k => if 0 < ds.length ∧ 2 ≤ k ∧ k ≤ 1000 ∧ ds.length ≤ 1000 then some (.tuple (List.replicate k.toNat ds).flatten) else none
  | _, _ => none
theorem RepA.rep {K : Fg} {H : Hp} {vs : List V} {ds : List D} (r : RepA K H vs ds) : ∀ n : Nat, RepA K H (List.replicate n vs).flatten (List.replicate n ds).flatten
  | 0 => .nil
  | n + 1 => by
    rw [List.replicate_succ, List.replicate_succ, List.flatten_cons, List.flatten_cons]
    exact r.append (r.rep n)
theorem ox_mul {X : Cx} : OpX X (binaryOp .Mult) mulD := fun pins s σ H x y v u Q I rx ry q => by
  obtain ⟨Hs, d, e, z, sb, sx, sy, ez, q⟩ := q
  cases d <;> cases e <;> first | (cases ez; done) | skip
  · exact ox_mulI pins s σ H x y v u Q I rx ry ⟨Hs, _, _, z, sb, sx, sy, ez, q⟩
  · rename_i ds k
    unfold mulD at ez
    dsimp only at ez
    by_cases c : 0 ≤ k ∧ k ≤ 1000 ∧ ds.length ≤ 1000
    · rw [if_pos c] at ez; cases ez
      obtain ⟨p, vs, e1, h1, r1⟩ := sx.lst sb
      refine op_rep pins s σ H x y v u Q I rx ry ⟨p, k, vs, e1, sy.int, h1, by omega, by omega, ?_, fun p3 np => ?_⟩
      · have h2 : (1000000 : Nat) ≤ sizeLine := by decide
        have h3 : vs.length * k.toNat ≤ 1000 * 1000 := Nat.mul_le_mul (by rw [r1.length]; omega) (by omega)
        omega
      · have g := Grow.laid (o := .lst (List.replicate k.toNat vs).flatten) sb np
        exact q _ _ _ g (.lst upd_same ((r1.rep _).mono g.s))
    · rw [if_neg c] at ez; cases ez
  · rename_i ds k
    unfold mulD at ez
    dsimp only at ez
    by_cases c : 0 < ds.length ∧ 2 ≤ k ∧ k ≤ 1000 ∧ ds.length ≤ 1000
    · rw [if_pos c] at ez; cases ez
      obtain ⟨p, vs, e1, h1, r1⟩ := sx.tup sb
      have l1 := r1.length
      refine op_repT pins s σ H x y v u Q I rx ry ⟨p, k, vs, e1, sy.int, h1, fun z => ?_, c.2.1, c.2.2.1, by omega, fun p3 np => ?_⟩
      · rw [z] at l1
        have := c.1
        rw [← l1] at this
        exact absurd this (by decide)
      · have g := Grow.laid (o := .tup (List.replicate k.toNat vs).flatten) sb np
        exact q _ _ _ g (.tup upd_same ((r1.rep _).mono g.s))
    · rw [if_neg c] at ez; cases ez

/-! ### sum(xs, start=0) is told where it is met; a def as it stands -/
structure DefOk (P : Program) (w : World) (K : Fg) (mg : MG) (base : Heap) (k : Nat) (x : Str) (f : Addr) (ps : List Str) (tails : List (List D)) (sp : Sp) : Prop where
  ex : ∃ fd, mg x = some (.ref f) ∧ PySem.W.keepIn K (.ref f) = true ∧ FnOk P w K mg base (L2N.CX P w) k f fd ps sp ∧
    ∀ dd ∈ tails, ∃ (dvs : List V) (ds : List Value), Vals dvs ds ∧ (∀ H, RepA K H dvs dd) ∧ Binds K fd ps ds
theorem DefOk.mono {P : Program} {w : World} {K : Fg} {mg : MG} {base : Heap} {j k : Nat} {x : Str} {f : Addr} {ps : List Str} {tails : List (List D)} {sp : Sp} (G : DefOk P w K mg base j x f ps tails sp) (h : j ≤ k) : DefOk P w K mg base k x f ps tails sp := by
  obtain ⟨fd, a, b, c, d⟩ := G.ex
  exact ⟨fd, a, b, c.mono h, d⟩
theorem DefOk.imp {P : Program} {w : World} {K : Fg} {mg : MG} {base : Heap} {k : Nat} {x : Str} {f : Addr} {ps : List Str} {tails : List (List D)} {m : List Md} {F F' : List D → R} (G : DefOk P w K mg base k x f ps tails (spD K mg m F)) (h : ∀ ds, F' ds ≠ .bad → F ds = F' ds) : DefOk P w K mg base k x f ps tails (spD K mg m F') := by
  obtain ⟨fd, a, b, c, d⟩ := G.ex
  exact ⟨fd, a, b, c.imp (spD.imp h), d⟩
theorem DefOk.impO {P : Program} {w : World} {K : Fg} {mg : MG} {base : Heap} {k : Nat} {x : Str} {f : Addr} {ps : List Str} {tails : List (List D)} {m : List Md} {F F' : D → List D → R} (G : DefOk P w K mg base k x f ps tails (spO K mg m F)) (h : ∀ c ds, F' c ds ≠ .bad → F c ds = F' c ds) : DefOk P w K mg base k x f ps tails (spO K mg m F') := by
  obtain ⟨fd, a, b, c, d⟩ := G.ex
  exact ⟨fd, a, b, c.imp (spO.imp h), d⟩
section
variable {X : Cx} {B : Bs} {W : WX} {k : Nat} {f : Addr} {ps : List Str} {tails : List (List D)} {m : List Md} {F : List D → R} {FO : D → List D → R} {x : Str} {p pos : Pos} {e : Expr} {es : List Expr} {fa : AF}
theorem pd_cl (dd : List D) (G : DefOk X.prog X.w X.K X.mg X.base k x f ps tails (spD X.K X.mg m F)) (hdd : dd ∈ tails) (tk : L2N.Takes X W) (hr : Room k X.A) (hg : Gl X x)
    (ha : PAD X B W (e :: es) fa) (hdb : (x == ("__debug__" : Str)) = false := by decide) (he : starEach (e :: es) X.env = (false, eval e X.env) :: starEach es X.env := by rfl) (hpl : (backTo pos (starEach es X.env)).any (·.1) = false := by rfl) :
    PD X B W (.Call (.Name x p) (e :: es) [] pos) (callF m F dd fa) := by
  obtain ⟨fd, a, b, c, d⟩ := G.ex
  obtain ⟨dvs, ds, h1, h2, h3⟩ := d dd hdd
  exact pd_call c tk hr hg a b h3 h1 h2 ha hdb he hpl
theorem pc_cl (dd : List D) (G : DefOk X.prog X.w X.K X.mg X.base k x f ps tails (spD X.K X.mg m F)) (hdd : dd ∈ tails) (tk : L2N.Takes X W) (hr : Room k X.A) (hg : Gl X x)
    (ha : PAD X B W (e :: es) fa) (hdb : (x == ("__debug__" : Str)) = false := by decide) (he : starEach (e :: es) X.env = (false, eval e X.env) :: starEach es X.env := by rfl) (hpl : (backTo pos (starEach es X.env)).any (·.1) = false := by rfl) :
    PC' X B W (.Call (.Name x p) (e :: es) [] pos) (callC m F dd fa) := by
  obtain ⟨fd, a, b, c, d⟩ := G.ex
  obtain ⟨dvs, ds, h1, h2, h3⟩ := d dd hdd
  exact pc_call c tk hr hg a b h3 h1 h2 ha hdb he hpl
theorem pd_clB (dd : List D) (G : DefOk X.prog X.w X.K X.mg X.base k x f ps tails (spD X.K X.mg m F)) (hdd : dd ∈ tails) (tk : L2N.Takes X W) (hr : Room k X.A) (hg : Gl X x)
    (ha : PAD X B W (e :: es) fa) (hdb : (x == ("__debug__" : Str)) = false := by decide) (he : starEach (e :: es) X.env = (false, eval e X.env) :: starEach es X.env := by rfl) (hpl : (backTo pos (starEach es X.env)).any (·.1) = false := by rfl) :
    PD X B W (.Call (.Name x p) (e :: es) [] pos) (callB m F dd fa) := by
  obtain ⟨fd, a, b, c, d⟩ := G.ex
  obtain ⟨dvs, ds, h1, h2, h3⟩ := d dd hdd
  exact pd_callB c tk hr hg a b h3 h1 h2 ha hdb he hpl
theorem pd_clO (dd : List D) (G : DefOk X.prog X.w X.K X.mg X.base k x f ps tails (spO X.K X.mg m FO)) (hdd : dd ∈ tails) (tk : L2N.Takes X W) (hr : Room k X.A) (hg : Gl X x)
    (ha : PAD X B W (e :: es) fa) (hdb : (x == ("__debug__" : Str)) = false := by decide) (he : starEach (e :: es) X.env = (false, eval e X.env) :: starEach es X.env := by rfl) (hpl : (backTo pos (starEach es X.env)).any (·.1) = false := by rfl) :
    PD X B W (.Call (.Name x p) (e :: es) [] pos) (callO m FO dd fa) := by
  obtain ⟨fd, a, b, c, d⟩ := G.ex
  obtain ⟨dvs, ds, h1, h2, h3⟩ := d dd hdd
  exact pd_callO c tk hr hg a b h3 h1 h2 ha hdb he hpl
end

/-! ### f(e, .., k = v, ..) -/
def gvl (g : {α : Type} → List α → List α → List α) : List Vl → List Vl → List Vl := fun a b => g a b
/-- a keyword call is the positional call of the parameters in order: g puts them there -/
def callK (m : List Md) (F : List D → R) (g : List Vl → List Vl → List Vl) (fa fk : AF) : EF := fun ρ => (fa ρ).bind fun xs ρ1 => (fk ρ1).bind fun ys ρ2 => match argD m (g xs ys) with
  | some ds => (match F ds with
    | .ok d _ _ => .ok (.st d) ρ2
    | .er e _ => .er e ρ2
    | .bad => .bad)
  | none => .bad
abbrev PKD (X : Cx) (B : Bs) (W : WX) (es : List Keyword) (f : AF) : Prop := PK X es (tAD X.K X.mg B W f)
theorem PK.imp {X : Cx} {e : List Keyword} {t t' : TA} (h : PK X e t) (i : ∀ σ H Q, t' σ H Q → t σ H Q) : PK X e t' := ⟨fun pos pins s σ H Q I q => h.run pos pins s σ H Q I (i σ H Q q)⟩
theorem pkd_nil {X : Cx} {B : Bs} {W : WX} : PKD X B W [] nilF := PK.imp pk_nil fun _ H _ ⟨Hs, ρ, sl, q⟩ => q Hs H sl (.refl _) [] .nil
theorem pkd_cons {X : Cx} {B : Bs} {W : WX} {nm : Option Str} {e : Expr} {kpos : Pos} {kws : List Keyword} {fa : EF} {fr : AF} (ha : PD X B W e fa) (hr : PKD X B W kws fr) : PKD X B W (⟨nm, e, kpos⟩ :: kws) (consF fa fr) := PK.imp (pk_cons ha hr) fun _ _ _ h => consF_read h
/-- .. where what is raised is wished for at the slots -/
theorem pe_callKS {X : Cx} {CX : CXT} {k n : Nat} {f : Addr} {fd : FuncData} {ps ks : List Str} {sp : Sp} {E : L2.St → XK} {x : Str} {p pos : Pos} {e : Expr} {es : List Expr} {kws : List Keyword} {t tk : TA} {g : List Value → List Value → List Value} {gV : List V → List V → List V}
    (F : FnOk X.prog X.w X.K X.mg X.base CX k f fd ps sp) (hr : Room k X.A) (hg : Gl X x) (hm : X.mg x = some (.ref f)) (hk : PySem.W.keepIn X.K (.ref f) = true) (hb : KBn X.K fd ps n ks g gV) (hx : ∀ σ, PassesAt CX X σ (E σ))
    (ha : PA X (e :: es) t) (hkw : PK X kws tk) (hall : (backToKw pos (keywordEach kws X.env)).all (·.1.isSome) = true := by rfl) (hks : (backToKw pos (keywordEach kws X.env)).filterMap (·.1) = ks := by rfl)
    (hdb : (x == ("__debug__" : Str)) = false := by decide) (he : starEach (e :: es) X.env = (false, eval e X.env) :: starEach es X.env := by rfl)
    (hpl : ((backTo pos (starEach (e :: es) X.env)).any (·.1) || (backToKw pos (keywordEach kws X.env)).any (·.1.isNone)) = false := by rfl) :
    PE X (.Call (.Name x p) (e :: es) kws pos) (fun σ H Q => t σ H fun vs H1 => tk σ H1 fun zs H2 => vs.length = n ∧ zs.length = ks.length ∧ sp (gV vs zs) H2 Q (E σ)) := by
  refine ⟨fun pins s σ H Q I h => ?_⟩
  refine wpAny_Call_Name_kw (ld_glob I hg hm ?_ hdb)
  refine PySem.W.callWith_KW (h₀ := X.base) I.ok.mod.kin hk hall (thn (ha.run pos pins s σ H _ I h) fun us s1 ⟨vs, H1, I1, r, q⟩ => ?_) hpl he
  refine thn (hkw.run pos pins s1 σ H1 _ I1 q) fun ws s2 ⟨zs, H2, I2, rz, q2⟩ => ⟨I2.kIn, ?_⟩
  obtain ⟨l1, l2, q2⟩ := q2
  rw [hks]
  have r2 := hb.rel r rz
  refine wpAny_call (codeAny_mono (F.run X.A X.stack s2 H2 ⟨us, ks.zip ws⟩ (g us ws) (gV vs zs) Q (E σ) hr I2.env0 (hb.to s2 us ws I2.kIn (by rw [← r.length]; exact l1) (by rw [← rz.length]; exact l2)) r2 q2) fun r s' hq => ?_)
  cases r with
  | error e => exact hx σ pins H2 s2 e s' I2 hq
  | ok fl =>
    cases fl with
    | ret u => exact I2.after hq
    | next => exact False.elim hq
    | brk => exact False.elim hq
    | cont => exact False.elim hq
end DL

/-! DLX -/
namespace DL
open PySem PySem.Spec PyProof.Rows L2

/-! ### what stands at the top -/
section
variable {X : Cx} {B : Bs} {W : WX} {pos : Pos}
theorem pd_giE {x : Str} {i : Int} (hg : Gl X x) (hm : ∃ t, X.mg x = some (.int i t)) (hd : (x == ("__debug__" : Str)) = false := by decide) : PD X B W (.Name x pos) (cst (.int i)) := by
  obtain ⟨t, h⟩ := hm
  exact pd_gi hg h hd
theorem pd_gsE {x : Str} {i : Str} (hg : Gl X x) (hm : ∃ t, X.mg x = some (.str i t)) (hd : (x == ("__debug__" : Str)) = false := by decide) : PD X B W (.Name x pos) (cst (.str i)) := by
  obtain ⟨t, h⟩ := hm
  exact pd_gs hg h hd
end
structure ExcK (K : Fg) (mg : MG) (x : Str) (C : Addr) : Prop where
  g : mg x = some (.ref C)
  x : PySem.W.excIn K C [.type "ValueError", .type "Exception", .type "BaseException", .type "object"] "ValueError.__new__" = true
  k : PySem.W.keepIn K (.ref C) = true
  b : PySem.W.subIn K (.ref C) (.type "BaseException") = some true
  t : PySem.W.typeIn K (.ref C) = some (.type "type")
structure DefK (K : Fg) (mg : MG) (x : Str) (f : Addr) (st : Stmt) (ps : List Str) (tails : List (List D)) : Prop where
  ex : ∃ fd dvs kws, FunD K x x (defArgs st) (defBody st) (defScope st) dvs kws f fd ∧ mg x = some (.ref f) ∧
    ∀ dd ∈ tails, ∃ (dvs : List V) (ds : List Value), Vals dvs ds ∧ (∀ H, RepA K H dvs dd) ∧ Binds K fd ps ds
section
variable {P : Program} {w : World} {K : Fg} {mg : MG} {base : Heap} {x : Str} {f : Addr} {st : Stmt} {ps N : List Str} {tails : List (List D)} {k : Nat} {body : SF} {m : List Md}
theorem DefK.of (G : DefK K mg x f st ps tails) (S : FnScope N ps (defScope st)) (hm : m.length = ps.length)
    (der : ∀ (cdv : Value) (A : Around) (outer : List Env) (s : Shared) (H : Hp) (E : XK) (B : Bs) (W : WX), Room k (A.deeper (envOfC x (defScope st) s.heap.objs.size f cdv)) → L2N.Takes (cxOf (L2N.CX P w) P w K mg base N x (defScope st) f cdv A outer s H E) W →
      PSsD (cxOf (L2N.CX P w) P w K mg base N x (defScope st) f cdv A outer s H E) B W (defBody st) body) : DefOk P w K mg base (k + 1) x f ps tails (spD K mg m (runD m N.length body)) := by
  obtain ⟨fd, dvs, kws, F, g, b⟩ := G.ex
  exact ⟨fd, g, F.kp, defD F S m hm der, b⟩
theorem DefK.ofO (G : DefK K mg x f st ps tails) (S : FnScope N ps (defScope st)) (hm : m.length + 1 = ps.length)
    (der : ∀ (cdv : Value) (A : Around) (outer : List Env) (s : Shared) (H : Hp) (E : XK) (B : Bs) (W : WX), Room k (A.deeper (envOfC x (defScope st) s.heap.objs.size f cdv)) → L2N.Takes (cxOf (L2N.CX P w) P w K mg base N x (defScope st) f cdv A outer s H E) W →
      PSsD (cxOf (L2N.CX P w) P w K mg base N x (defScope st) f cdv A outer s H E) B W (defBody st) body) : DefOk P w K mg base (k + 1) x f ps tails (spO K mg m (runO m N.length body)) := by
  obtain ⟨fd, dvs, kws, F, g, b⟩ := G.ex
  exact ⟨fd, g, F.kp, defO F S m hm der, b⟩
theorem DefK.zero (G : DefK K mg x f st ps tails) : DefOk P w K mg base k x f ps tails (spD K mg m fun _ => .bad) := by
  obtain ⟨fd, dvs, kws, F, g, b⟩ := G.ex
  refine ⟨fd, g, F.kp, ⟨fun vs H Q E h => ?_, fun A outer s H args us vs Q E _ _ _ _ h => ?_⟩, b⟩
  · obtain ⟨_, _, _, _, z⟩ := h
    exact z.elim
  · obtain ⟨_, _, _, _, z⟩ := h
    exact z.elim
end

/-! ### the script -/
/-- the slice of the whole script, a new list -/
def scrF (a : Addr) (ns : List Int) : EF := fun ρ => match ρ[(0 : Nat)]? with
  | some (.fn b) => if b = a then .ok (.st (.list (ns.map PyData.int))) ρ else .bad
  | _ => .bad
theorem cut63 {ns : List Int} (h : ns.length ≤ 63) : cutV (ns.map V.int) none (some 63) = ns.map V.int := by
  unfold cutV
  rw [HT.sIx_none, show HT.sIx (ns.map V.int).length (ns.map V.int).length (some 63) = min 63 (ns.map V.int).length from HT.sIx_nat _ _ 63, List.length_map]
  rw [Nat.min_eq_right h, List.drop_zero, Nat.sub_zero]
  exact List.take_of_length_le (by rw [List.length_map]; exact Nat.le_refl _)
/-- the script stands at a in all states of a body -/
def ScrAt (K : Fg) (B : Bs) (a : Addr) (ns : List Int) : Prop := ns.length ≤ 63 ∧ ∀ Hs H σ ρ, Sl K B Hs H σ ρ → SqL K H a (ns.map V.int)
section
variable {X : Cx} {B : Bs} {W : WX} {a : Addr} {ns : List Int} {x : Str} {p p2 p3 pos : Pos} {j : Nat}
theorem pd_scr (hS : ScrAt X.K B a ns) (hv : PE X (.Name x p) (tVar 0)) : PD X B W (.Subscript (.Name x p) (.Slice none (some (.Constant (.int 63) j p3)) none p2) pos) (scrF a ns) :=
  PE.imp (pe_slice sl_list hv po_none (po_some pe_int)) fun σ H Q ⟨Hs, ρ, sl, q⟩ => by
  unfold scrF at q
  cases e0 : ρ[(0 : Nat)]? with
  | none => rw [e0] at q; exact q.elim
  | some s =>
    rw [e0] at q
    cases s <;> first | exact q.elim | skip
    rename_i b
    dsimp only at q
    by_cases c : b = a
    · rw [if_pos c] at q
      subst c
      obtain ⟨y, ey⟩ := sl_var sl e0
      have o : y = some (.ref b) := sl.ok 0 _ _ ey e0
      subst o
      refine ⟨_, ey, 63, rfl, b, ns.map V.int, rfl, hS.2 Hs H σ ρ sl, fun p' np => ?_⟩
      rw [cut63 hS.1]
      have g := Grow.laid (o := .lst (ns.map V.int)) sl.sub np
      exact q _ _ (sl.grow g) g.s _ (.lst upd_same (RepA.of_ints ns))
    · rw [if_neg c] at q; exact q.elim
end
def spBox (K : Fg) (f : Addr → List Int → SF) (n : Nat) : Sp := fun vs H Q E => ∃ Hs a ns d, vs = [.ref a] ∧ Same Hs H ∧ SqL K H a (ns.map V.int) ∧ ns.length ≤ 63 ∧ (∃ ρ', f a ns (.fn a :: List.replicate (n - 1) .un) = .rt d true ρ') ∧
  ∀ r Hs' H', Grow Hs H Hs' H' → RetOk K Hs' H' (fun p => H p = none) true r d → Q r H'
def spLaw (K : Fg) (f : Addr → List Int → SF) (n : Nat) : Sp := fun vs H Q E => ∃ a ns, vs = [.ref a] ∧ SqL K H a (ns.map V.int) ∧ ns.length ≤ 63 ∧ (∃ ρ', f a ns (.fn a :: List.replicate (n - 1) .un) = .rt (.bool true) false ρ') ∧ ∀ H', Q (.bl true) H'
section
variable {P : Program} {w : World} {K : Fg} {mg : MG} {base : Heap}
theorem scr_at {Hs H : Hp} {a : Addr} {ns : List Int} (hl : ns.length ≤ 63) (h : SqL K H a (ns.map V.int)) : ScrAt K ⟨Hs, H, fun _ => False, fun _ => False, fun _ => False, fun _ => none⟩ a ns := ⟨hl, fun Hs' H' σ ρ sl => by
  rcases h with (h | ⟨o, h⟩) | h
  · exact .inl (.inl (sl.keep _ _ h (fun z => z) fun z => z))
  · exact .inl (.inr ⟨o, sl.keep _ _ h (fun z => z) fun z => z⟩)
  · exact .inr h⟩
theorem sl_scr {Hs H : Hp} {a : Addr} {N : List Str} (sm : Same Hs H) (hn : 1 ≤ N.length) : Sl K ⟨Hs, H, fun _ => False, fun _ => False, fun _ => False, fun _ => none⟩ Hs H (start N [.ref a]) (.fn a :: List.replicate (N.length - 1) .un) := by
  have h := sl_start (K := K) (m := [.f a]) (vs := [.ref a]) (ds := [.none]) (N := N) sm (.f .nil) hn
  exact h
theorem defBox {x qual : Str} {st : Stmt} {dvs : List V} {kws : List (Str × V)} {f : Addr} {fd : FuncData} {N : List Str} {s0 : Str} {k : Nat} {body : Addr → List Int → SF} (F : FunD K x qual (defArgs st) (defBody st) (defScope st) dvs kws f fd) (S : FnScope N [s0] (defScope st))
    (der : ∀ (ns : List Int) (a : Addr) (cdv : Value) (A : Around) (outer : List Env) (s : Shared) (H : Hp) (E : XK) (B : Bs) (W : WX), Room k (A.deeper (envOfC qual (defScope st) s.heap.objs.size f cdv)) → L2N.Takes (cxOf (L2N.CX P w) P w K mg base N qual (defScope st) f cdv A outer s H E) W → ScrAt K B a ns →
      PSsD (cxOf (L2N.CX P w) P w K mg base N qual (defScope st) f cdv A outer s H E) B W (defBody st) (body a ns)) : FnOk P w K mg base (L2N.CX P w) (k + 1) f fd [s0] (spBox K body N.length) := by
  have hn : 1 ≤ N.length := by
    have h := congrArg List.length S.pre
    rw [List.length_take] at h
    have h : min 1 N.length = 1 := h
    omega
  refine F.ok S (fun vs H Q E h => ?_) (fun cdv A outer s H vs Q E hr h => ?_)
  · obtain ⟨Hs, a, ns, d, rfl, _⟩ := h
    rfl
  · obtain ⟨Hs, a, ns, d, rfl, sm, hS, hl, ⟨ρ', e⟩, q⟩ := h
    refine ⟨_, der ns a cdv A outer s H E ⟨Hs, H, fun _ => False, fun _ => False, fun _ => False, fun _ => none⟩ (fun cls d _ H' => E cls d H') hr (L2N.takes_of rfl rfl rfl rfl) (scr_at hl hS), Hs, _, sl_scr sm hn, ?_⟩
    rw [e]
    exact fun σ' Hs' H' v sl _ ro => q _ _ _ sl.growth ro.fin
theorem defLaw {x qual : Str} {st : Stmt} {dvs : List V} {kws : List (Str × V)} {f : Addr} {fd : FuncData} {N : List Str} {s0 : Str} {k : Nat} {body : Addr → List Int → SF} (F : FunD K x qual (defArgs st) (defBody st) (defScope st) dvs kws f fd) (S : FnScope N [s0] (defScope st))
    (der : ∀ (ns : List Int) (a : Addr) (cdv : Value) (A : Around) (outer : List Env) (s : Shared) (H : Hp) (E : XK) (B : Bs) (W : WX), Room k (A.deeper (envOfC qual (defScope st) s.heap.objs.size f cdv)) → L2N.Takes (cxOf (L2N.CX P w) P w K mg base N qual (defScope st) f cdv A outer s H E) W → ScrAt K B a ns →
      PSsD (cxOf (L2N.CX P w) P w K mg base N qual (defScope st) f cdv A outer s H E) B W (defBody st) (body a ns)) : FnOk P w K mg base (L2N.CX P w) (k + 1) f fd [s0] (spLaw K body N.length) := by
  have hn : 1 ≤ N.length := by
    have h := congrArg List.length S.pre
    rw [List.length_take] at h
    have h : min 1 N.length = 1 := h
    omega
  refine F.ok S (fun vs H Q E h => ?_) (fun cdv A outer s H vs Q E hr h => ?_)
  · obtain ⟨a, ns, rfl, _⟩ := h
    rfl
  · obtain ⟨a, ns, rfl, hS, hl, ⟨ρ', e⟩, q⟩ := h
    refine ⟨_, der ns a cdv A outer s H E ⟨fun _ => none, H, fun _ => False, fun _ => False, fun _ => False, fun _ => none⟩ (fun cls d _ H' => E cls d H') hr (L2N.takes_of rfl rfl rfl rfl) (scr_at hl hS), fun _ => none, _, sl_scr (fun _ _ z => by cases z) hn, ?_⟩
    rw [e]
    exact fun σ' Hs' H' v sl _ ro => by
      have ev : v = .bl true := Shal.bl (K := K) (Hs := Hs') (H := H') (.inl ro)
      rw [ev]
      exact q H'
end
/-- _law_box as it stands -/
structure DefBox (P : Program) (w : World) (K : Fg) (mg : MG) (base : Heap) (k : Nat) (x : Str) (f : Addr) (s0 : Str) (body : Addr → List Int → SF) (n : Nat) : Prop where
  ex : ∃ fd, mg x = some (.ref f) ∧ PySem.W.keepIn K (.ref f) = true ∧ FnOk P w K mg base (L2N.CX P w) k f fd [s0] (spBox K body n) ∧ Binds K fd [s0] []
def boxC (a : Addr) (d : D) (fa : AF) : CF := fun ρ => (fa ρ).bind fun xs ρ1 => match xs with
  | [.fn b] => if b = a then .ok d ρ1 else .bad
  | _ => .bad
theorem pc_box {X : Cx} {B : Bs} {W : WX} {k n : Nat} {a f : Addr} {ns : List Int} {d : D} {x s0 : Str} {body : Addr → List Int → SF} {p pos : Pos} {e : Expr} {fa : AF} (hS : ScrAt X.K B a ns) (G : DefBox X.prog X.w X.K X.mg X.base k x f s0 body n) (hB : ∃ ρ', body a ns (.fn a :: List.replicate (n - 1) .un) = .rt d true ρ') (tk : L2N.Takes X W) (hr : Room k X.A) (hg : Gl X x)
    (ha : PAD X B W [e] fa) (hdb : (x == ("__debug__" : Str)) = false := by decide) (he : starEach [e] X.env = (false, eval e X.env) :: starEach [] X.env := by rfl) (hpl : (backTo pos (starEach [] X.env)).any (·.1) = false := by rfl) : PC' X B W (.Call (.Name x p) [e] [] pos) (boxC a d fa) := by
  obtain ⟨fd, hm, hk, F, hb⟩ := G.ex
  refine PE.imp (pe_callSD (E := WE W) F hr hg hm hk hb .nil (fun σ => L2N.passAt tk σ) ha hdb he hpl) fun σ H Q ⟨Hs, ρ, sl, q⟩ => ?_
  refine ⟨Hs, ρ, sl, OP.imp (OP.bind q) fun xs ρ1 Hs1 H1 _ sl1 e1 q1 vs hvs => ?_⟩
  cases hvs with
  | nil => exact q1.elim
  | @cons v vs' xx xs' h1 h2 =>
    cases xx with
    | st d => exact q1.elim
    | «at» i => exact q1.elim
    | fn b =>
      cases h2 with
      | cons _ _ => exact q1.elim
      | nil =>
        dsimp only at q1
        by_cases c : b = a
        · rw [if_pos c] at q1
          subst c
          have h1 : v = .ref b := h1
          subst h1
          refine ⟨Hs1, b, ns, d, rfl, sl1.sub, hS.2 _ _ _ _ sl1, hS.1, hB, fun r Hs' H' g ro => ?_⟩
          obtain ⟨pp, rfl, n, n0, cn⟩ := ro
          obtain ⟨f1, f2, f3⟩ := sl1.fresh n0
          exact q1 Hs' H' (sl1.grow g) g.s pp n f2 (f3.grow sl1 g) cn
        · rw [if_neg c] at q1; exact q1.elim

/-! ### the law's own box -/
def seedOf (ns : List Int) : Int := ns.foldl (fun s c => (s * 48271 + c % 1000003 + 11) % 2147483647) 7
def boxD (ns : List Int) : D := .list [.list (ns.map PyData.int), .int 0, .int 0, .int 0, .int (seedOf ns)]

/-! ### the end -/
/-- as walk_ofE, with the script's bits told -/
theorem walk_ofEB {l : PySem.W.OpenLaw} {n k : Nat} {q : Program} {loose : List Str} {XP : (Str → Option Value) → Heap → Prop} {YP : World → Heap → Prop} {d : DefRec} {CX : World → CXT} {x : Str}
    (hn : l.most = some n) (hn2 : n ≤ sizeLine) (hdf : d.params.defaults = []) (hr : Room k callerA)
    (F : ∀ (w : World) (mg : Str → Option Value) (fa : Addr) (h : Heap), YP w h → h.Ns mainGlobals mg → mg d.name = some (.ref fa) →
      ∃ (K : PySem.W.Frag) (fd : FuncData) (sp : Sp), K.In h ∧ (∀ (s : Shared) (u : Value), BindsTo s fd ⟨[u], []⟩ [(x, u)]) ∧
        (∀ (H : Hp) (a : Addr) (ns : List Int), ns.length ≤ n → (∀ z ∈ ns, Builtin.Int.intBits z ≤ 1048576) → Only H → SqL K H a (ns.map V.int) → sp [.ref a] H (fun v _ => v = .bl true) fun _ _ _ => False) ∧
        ∀ base : Heap, K.In base → base.Ns mainGlobals mg → FnOk l.prog w K mg base (CX w) k fa fd [x] sp)
    (hCX : ∀ (w : World) (H : Hp) (s : Shared) (e : Value) (s' : Shared), CX w [] H s (fun _ _ _ => False) e s' → False) :
    PySem.W.WalkO q loose XP YP l.row.toRowW d [] (fun f vs => PySem.call f vs) := by
  refine Att.attach_callB hn hdf fun w s₀ s₁ mg mb fa o pm cd doc a vs ns G Y ho hd hcd hmg hobj hints hlen hbits hg => ?_
  obtain ⟨K, fd, sp, KX, hb, hsp, hF⟩ := F w mg fa _ Y G.T.g hmg
  exact law_call KX G.T.g G.T.b G.T.builtins G.T.nolimit hg hobj hints (Nat.le_trans hlen hn2) hr hF hb (fun H hO hS => hsp H a ns hlen hbits hO hS) fun H e s' => hCX w H s₁ e s'
end DL

/-! DL13 -/
namespace DL
open PySem PySem.Spec PyProof.Rows L2

/-! ### defs called with keywords -/
/-- where a parameter's value comes from: written, left out, by its name -/
inductive Pk where
  | p (i : Nat) | d (i : Nat) | k (i : Nat)
def Pk.of {α : Type} (a b e : List α) : Pk → Option α
  | .p i => a[i]?
  | .d i => b[i]?
  | .k i => e[i]?
def pick {α : Type} : List Pk → List α → List α → List α → List α
  | [], _, _, _ => []
  | c :: cs, a, b, e => match c.of a b e with
    | some x => x :: pick cs a b e
    | none => pick cs a b e
structure KwSh where
  n : Nat
  ks : List Str
  cs : List Pk
  dd : List D
theorem Vals.at {vs : List V} {us : List Value} (r : Vals vs us) (i : Nat) : (vs[i]? = none ∧ us[i]? = none) ∨ ∃ v u, vs[i]? = some v ∧ us[i]? = some u ∧ RelV v u := by
  induction r generalizing i with
  | nil => exact .inl ⟨rfl, rfl⟩
  | cons h t ih =>
    cases i with
    | zero => exact .inr ⟨_, _, rfl, rfl, h⟩
    | succ i => simpa using ih i
theorem VlsOk.at {K : Fg} {Hs : Hp} {σ : L2.St} : ∀ {vs : List V} {us : List Vl}, VlsOk K Hs σ vs us → ∀ i : Nat, (vs[i]? = none ∧ us[i]? = none) ∨ ∃ v u, vs[i]? = some v ∧ us[i]? = some u ∧ VlOk K Hs σ v u
  | _, _, .nil, i => .inl ⟨rfl, rfl⟩
  | _, _, .cons h t, 0 => .inr ⟨_, _, rfl, rfl, h⟩
  | _, _, .cons h t, i + 1 => by simpa using VlsOk.at t i
theorem pick_vals {va vb vc : List V} {ua ub uc : List Value} (ra : Vals va ua) (rb : Vals vb ub) (rc : Vals vc uc) : ∀ cs : List Pk, Vals (pick cs va vb vc) (pick cs ua ub uc)
  | [] => .nil
  | c :: cs => by
    have ih := pick_vals ra rb rc cs
    have h : (c.of va vb vc = none ∧ c.of ua ub uc = none) ∨ ∃ v u, c.of va vb vc = some v ∧ c.of ua ub uc = some u ∧ RelV v u := by
      cases c with
      | p i => exact Vals.at ra i
      | d i => exact Vals.at rb i
      | k i => exact Vals.at rc i
    unfold pick
    rcases h with ⟨e1, e2⟩ | ⟨v, u, e1, e2, r⟩
    · rw [e1, e2]; exact ih
    · rw [e1, e2]; exact .cons r ih
theorem pick_vls {K : Fg} {Hs : Hp} {σ : L2.St} {va vb vc : List V} {ua ub uc : List Vl} (ra : VlsOk K Hs σ va ua) (rb : VlsOk K Hs σ vb ub) (rc : VlsOk K Hs σ vc uc) : ∀ cs : List Pk, VlsOk K Hs σ (pick cs va vb vc) (pick cs ua ub uc)
  | [] => .nil
  | c :: cs => by
    have ih := pick_vls ra rb rc cs
    have h : (c.of va vb vc = none ∧ c.of ua ub uc = none) ∨ ∃ v u, c.of va vb vc = some v ∧ c.of ua ub uc = some u ∧ VlOk K Hs σ v u := by
      cases c with
      | p i => exact VlsOk.at ra i
      | d i => exact VlsOk.at rb i
      | k i => exact VlsOk.at rc i
    unfold pick
    rcases h with ⟨e1, e2⟩ | ⟨v, u, e1, e2, r⟩
    · rw [e1, e2]; exact ih
    · rw [e1, e2]; exact .cons r ih
structure KwOk (K : Fg) (fd : FuncData) (ps : List Str) (q : KwSh) : Prop where
  ex : ∃ (g : List Value → List Value → List Value) (dvs : List V), KBn K fd ps q.n q.ks g (fun vs zs => pick q.cs vs dvs zs) ∧ ∀ H, RepA K H dvs q.dd
theorem kwD {K : PySem.W.Frag} {x qual : Str} {params : Arguments} {body : List Stmt} {scope : Scope} {dvs : List V} {kws : List (Str × V)} {f : Addr} {fd : FuncData} {ps : List Str} (F : FunD K x qual params body scope dvs kws f fd) (q : KwSh) (hd : dvs ≠ [])
    (hrep : ∀ H, RepA K H dvs q.dd)
    (h : ∀ (T : Addr) (kV doc pm : Value) (an : Option Addr) (cdv ct : Value) (us its ws : List Value), us.length = q.n → its.length = dvs.length → ws.length = q.ks.length →
      ∃ k, bindArgs (PySem.W.fnOf x qual params body scope (.ref T) kV doc pm an cdv ct) ⟨us, q.ks.zip ws⟩ = seqItems? (.ref T) >>= k ∧ k (some its.toArray) = pure (ps.zip (pick q.cs us its ws))) : KwOk K fd ps q := by
  obtain ⟨its, b⟩ := FunD.kbindsD F q.n q.ks (fun a b c => pick q.cs a b c) hd (fun r1 r2 r3 => pick_vals r1 r2 r3 q.cs) h
  exact ⟨_, dvs, b, hrep⟩
theorem kwZ {K : PySem.W.Frag} {x qual : Str} {params : Arguments} {body : List Stmt} {scope : Scope} {kws : List (Str × V)} {f : Addr} {fd : FuncData} {ps : List Str} (F : FunD K x qual params body scope [] kws f fd) (q : KwSh) (hq : q.dd = [])
    (h : ∀ (kV doc pm : Value) (an : Option Addr) (cdv ct : Value) (us ws : List Value), us.length = q.n → ws.length = q.ks.length →
      bindArgs (PySem.W.fnOf x qual params body scope .none kV doc pm an cdv ct) ⟨us, q.ks.zip ws⟩ = pure (ps.zip (pick q.cs us [] ws))) : KwOk K fd ps q := by
  obtain ⟨oc, od, dV, kV, doc, pm, an, cdv, ct, osl, rfl, lk, hcd, hD, hK⟩ := F.ex
  rcases hD with ⟨_, rfl⟩ | ⟨e, _⟩
  · exact ⟨fun us ws => pick q.cs us [] ws, [], ⟨fun s us ws X l1 l2 => .of_eq (h kV doc pm an cdv ct us ws l1 l2), fun r1 r2 => pick_vals r1 .nil r2 q.cs⟩, fun H => by rw [hq]; exact .nil⟩
  · exact absurd rfl e
structure DefOkW (P : Program) (w : World) (K : Fg) (mg : MG) (base : Heap) (k : Nat) (x : Str) (f : Addr) (ps : List Str) (tails : List (List D)) (sh : List KwSh) (sp : Sp) : Prop where
  ex : ∃ fd, mg x = some (.ref f) ∧ PySem.W.keepIn K (.ref f) = true ∧ FnOk P w K mg base (L2N.CX P w) k f fd ps sp ∧
    (∀ dd ∈ tails, ∃ (dvs : List V) (ds : List Value), Vals dvs ds ∧ (∀ H, RepA K H dvs dd) ∧ Binds K fd ps ds) ∧ ∀ q ∈ sh, KwOk K fd ps q
theorem DefOkW.ok {P : Program} {w : World} {K : Fg} {mg : MG} {base : Heap} {k : Nat} {x : Str} {f : Addr} {ps : List Str} {tails : List (List D)} {sh : List KwSh} {sp : Sp} (G : DefOkW P w K mg base k x f ps tails sh sp) : DefOk P w K mg base k x f ps tails sp := by
  obtain ⟨fd, a, b, c, d, _⟩ := G.ex
  exact ⟨fd, a, b, c, d⟩
structure DefKW (K : Fg) (mg : MG) (x : Str) (f : Addr) (st : Stmt) (ps : List Str) (tails : List (List D)) (sh : List KwSh) : Prop where
  ex : ∃ fd dvs kws, FunD K x x (defArgs st) (defBody st) (defScope st) dvs kws f fd ∧ mg x = some (.ref f) ∧
    (∀ dd ∈ tails, ∃ (dvs : List V) (ds : List Value), Vals dvs ds ∧ (∀ H, RepA K H dvs dd) ∧ Binds K fd ps ds) ∧ ∀ q ∈ sh, KwOk K fd ps q
section
variable {P : Program} {w : World} {K : Fg} {mg : MG} {base : Heap} {x : Str} {f : Addr} {st : Stmt} {ps N : List Str} {tails : List (List D)} {sh : List KwSh} {k : Nat} {body : SF} {m : List Md}
theorem DefKW.of (G : DefKW K mg x f st ps tails sh) (S : FnScope N ps (defScope st)) (hm : m.length = ps.length)
    (der : ∀ (cdv : Value) (A : Around) (outer : List Env) (s : Shared) (H : Hp) (E : XK) (B : Bs) (W : WX), Room k (A.deeper (envOfC x (defScope st) s.heap.objs.size f cdv)) → L2N.Takes (cxOf (L2N.CX P w) P w K mg base N x (defScope st) f cdv A outer s H E) W →
      PSsD (cxOf (L2N.CX P w) P w K mg base N x (defScope st) f cdv A outer s H E) B W (defBody st) body) : DefOkW P w K mg base (k + 1) x f ps tails sh (spD K mg m (runD m N.length body)) := by
  obtain ⟨fd, dvs, kws, F, g, b, c⟩ := G.ex
  exact ⟨fd, g, F.kp, defD F S m hm der, b, c⟩
end
theorem VlsOk.len {K : Fg} {Hs : Hp} {σ : L2.St} : ∀ {vs : List V} {xs : List Vl}, VlsOk K Hs σ vs xs → vs.length = xs.length
  | _, _, .nil => rfl
  | _, _, .cons _ r => congrArg Nat.succ r.len
section
variable {X : Cx} {B : Bs} {W : WX} {k : Nat} {f : Addr} {ps : List Str} {tails : List (List D)} {sh : List KwSh} {m : List Md} {F : List D → R} {x : Str} {p pos : Pos} {e : Expr} {es : List Expr} {kws : List Keyword} {fa fk : AF}
/-- a call with keywords: n, how many values are written ahead; ks, the keywords' names -/
def callW (m : List Md) (F : List D → R) (q : KwSh) (fa fk : AF) : EF := fun ρ => (fa ρ).bind fun xs ρ1 => (fk ρ1).bind fun ys ρ2 => if xs.length = q.n ∧ ys.length = q.ks.length then match argD m (pick q.cs xs (q.dd.map Vl.st) ys) with
  | some ds => (match F ds with
    | .ok d _ _ => .ok (.st d) ρ2
    | .er e _ => .er e ρ2
    | .bad => .bad)
  | none => .bad else .bad
theorem pd_clW (q : KwSh) (G : DefOkW X.prog X.w X.K X.mg X.base k x f ps tails sh (spD X.K X.mg m F)) (hq : q ∈ sh) (tk : L2N.Takes X W) (hr : Room k X.A) (hg : Gl X x)
    (ha : PAD X B W (e :: es) fa) (hkw : PKD X B W kws fk) (hall : (backToKw pos (keywordEach kws X.env)).all (·.1.isSome) = true := by rfl) (hks : (backToKw pos (keywordEach kws X.env)).filterMap (·.1) = q.ks := by rfl)
    (hdb : (x == ("__debug__" : Str)) = false := by decide) (he : starEach (e :: es) X.env = (false, eval e X.env) :: starEach es X.env := by rfl)
    (hpl : ((backTo pos (starEach (e :: es) X.env)).any (·.1) || (backToKw pos (keywordEach kws X.env)).any (·.1.isNone)) = false := by rfl) :
    PD X B W (.Call (.Name x p) (e :: es) kws pos) (callW m F q fa fk) := by
  obtain ⟨fd, hm, hk, c, _, d⟩ := G.ex
  obtain ⟨g, dvs, hb, hv⟩ := (d q hq).ex
  refine PE.imp (pe_callKS (E := WE W) c hr hg hm hk hb (fun σ => L2N.passAt tk σ) ha hkw hall hks hdb he hpl) fun σ H Q ⟨Hs, ρ, sl, q0⟩ => ?_
  refine ⟨Hs, ρ, sl, OP.imp (OP.bind q0) fun xs ρ1 Hs1 H1 _ sl1 e1 q1 vs hvs => ?_⟩
  refine ⟨Hs1, ρ1, sl1, OP.imp (OP.bind q1) fun ys ρ2 Hs2 H2 _ sl2 e2 q2 zs hzs => ?_⟩
  by_cases cl : xs.length = q.n ∧ ys.length = q.ks.length
  · rw [if_pos cl] at q2
    have l1 := hvs.len.trans cl.1
    have l2 := hzs.len.trans cl.2
    refine ⟨l1, l2, ?_⟩
    have hh := pick_vls (hvs.mono e2) (VlsOk.app .nil (hv Hs2)) hzs q.cs
    rw [List.nil_append, List.nil_append] at hh
    cases ea : argD m (pick q.cs xs (q.dd.map Vl.st) ys) with
    | none => rw [ea] at q2; exact q2.elim
    | some es =>
      rw [ea] at q2
      refine ⟨Hs2, es, sl2.sub, argD_ok hh ea, ?_⟩
      dsimp only at q2
      cases eF : F es with
      | bad => rw [eF] at q2; exact q2.elim
      | er z c => rw [eF] at q2; exact fun cls od Hs' H' g eo => q2 cls od Hs' H' (sl2.grow g) g.s eo
      | ok d fr c =>
        rw [eF] at q2
        intro r Hs' H' g ro
        have sl3 := sl2.grow g
        cases fr with
        | false => exact q2 Hs' H' sl3 g.s r ro
        | true =>
          obtain ⟨pp, rfl, n, n0, cn⟩ := ro
          obtain ⟨o, eo⟩ := cn.there
          obtain ⟨f1, f2, f3⟩ := sl2.fresh n0
          exact q2 _ H' (sl3.take eo n f2 (f3.grow sl2 g)) (g.s.trans (same_upd n)) _ (cn.frozen eo n)
  · rw [if_neg cl] at q2; exact q2.elim
end
end DL

/-! DZ -/
set_option maxHeartbeats 1000000
/-! zip(.., strict=True) of lists and tuples of one length -/
namespace DZ
open PySem
/-- an iterator of a list (true) or of a tuple -/
def ItK (b : Bool) (h : Heap) (it l : Addr) (k : Nat) : Prop := if b = true then h.IsListIter it l k else h.IsTupleIter it l k
def SqK (b : Bool) (h : Heap) (l : Addr) (xs : Array Value) : Prop := if b = true then h.IsList l xs else h.IsTuple l xs
theorem ItK.ext {b : Bool} {h h' : Heap} {p it l : Addr} {k : Nat} (i : ItK b h it l k) (e : Heap.ExtBut p h h') (n : it ≠ p) : ItK b h' it l k := by
  cases b
  · exact Heap.IsTupleIter.extBut i e n
  · exact Heap.IsListIter.extBut i e n
theorem SqK.ext {b : Bool} {h h' : Heap} {p l : Addr} {xs : Array Value} (i : SqK b h l xs) (e : Heap.ExtBut p h h') (n : l ≠ p) : SqK b h' l xs := by
  cases b
  · exact Heap.IsTuple.extBut i e n
  · exact Heap.IsList.extBut i e n
theorem ItK.at {b : Bool} {h h' : Heap} {it l : Addr} {k : Nat} (i : ItK b h it l k) (f : ∀ o, h.get? it = some o → h'.get? it = some o) : ItK b h' it l k := by
  cases b
  · exact Heap.IsTupleIter.at i f
  · exact Heap.IsListIter.at i f
theorem ItK.there {b : Bool} {h : Heap} {it l : Addr} {k : Nat} (i : ItK b h it l k) : ∃ o, h.get? it = some o := by
  cases b
  · obtain ⟨o, e, _⟩ := (show h.IsTupleIter it l k from i); exact ⟨o, e⟩
  · obtain ⟨o, e, _⟩ := (show h.IsListIter it l k from i); exact ⟨o, e⟩
section
variable {prog : Program} {w : World} {A : Around} {E : Value → Shared → Prop} {s : Shared} {b : Bool}
theorem one_item {it l : Addr} {i : Nat} {xs : Array Value} {x : Value} {Q : Option Value → Shared → Prop} (hi : ItK b s.heap it l i) (hl : SqK b s.heap l xs) (hx : xs[i]? = some x)
    (hQ : ∀ h', ItK b h' it l (i + 1) → Heap.SameBut it s.heap h' → Q (some x) { s with heap := h' }) : wpAny (model prog w) A (Builtin.SmallTypes.nextOrEnd (.ref it)) Q E s := by
  unfold Builtin.SmallTypes.nextOrEnd
  refine wpAny_bind (wpAny_attempt ?_)
  cases b
  · exact RZ.nextOf_tuple_item hi hl hx fun h' a c => wpAny_pure (hQ h' a c)
  · exact wpAny_nextOf_list_item hi hl hx fun h' a c => wpAny_pure (hQ h' a c)
theorem one_end {it l : Addr} {i : Nat} {xs : Array Value} {Q : Option Value → Shared → Prop} (hh : A.handled = none) (hi : ItK b s.heap it l i) (hl : SqK b s.heap l xs) (hx : xs[i]? = none)
    (hQ : ∀ h', Heap.ExtBut it s.heap h' → Q none { s with heap := h' }) : wpAny (model prog w) A (Builtin.SmallTypes.nextOrEnd (.ref it)) Q E s := by
  unfold Builtin.SmallTypes.nextOrEnd
  refine wpAny_bind (wpAny_attempt ?_)
  cases b
  · refine RZ.nextOf_tuple_end hh hi hl hx fun h' e a c => ?_
    obtain ⟨o, ho, hc⟩ := c
    refine wpAny_bind (wpAny_isInstance (T := "StopIteration") (b := true) ⟨o, ho, hc⟩ isSubtype_stop ?_)
    exact wpAny_pure (hQ h' a)
  · refine wpAny_nextOf_list_end hh hi hl hx fun h' e a c => ?_
    obtain ⟨o, ho, hc⟩ := c
    refine wpAny_bind (wpAny_isInstance (T := "StopIteration") (b := true) ⟨o, ho, hc⟩ isSubtype_stop ?_)
    exact wpAny_pure (hQ h' a)
end
abbrev ZipS (h : Heap) (z TI TO : Addr) (f0 : Value) : Prop :=
  h.get? z = some { cls := .type "zip", dict := none, data := .fields #[f0, .bool false, .bool true, .ref TI, .ref TO], slots := #[] }
section
variable {prog : Program} {w : World} {A : Around} {E : Value → Shared → Prop} {s : Shared} {b1 b2 : Bool}
theorem item_in {z TI TO i1 i2 l1 l2 : Addr} {k1 k2 : Nat} {xs ys : Array Value} {x y a b : Value} {Q : Value → Shared → Prop} (D : ZipApart z TI TO i1 i2 l1 l2)
    (hz : ZipS s.heap z TI TO .none) (hTI : IsPair s.heap TI (.ref i1) (.ref i2)) (hTO : IsPair s.heap TO a b)
    (h1 : ItK b1 s.heap i1 l1 k1) (h2 : ItK b2 s.heap i2 l2 k2) (hl1 : SqK b1 s.heap l1 xs) (hl2 : SqK b2 s.heap l2 ys) (hx : xs[k1]? = some x) (hy : ys[k2]? = some y)
    (hQ : ∀ h', ZipS h' z TI TO (rawInt s.heap.objs.size) → IsPair h' TO x y → ItK b1 h' i1 l1 (k1 + 1) → ItK b2 h' i2 l2 (k2 + 1) → IsPair h' s.heap.objs.size x y → h'.objs.size = s.heap.objs.size + 1 →
      (∀ c o, c ≠ z → c ≠ TO → c ≠ i1 → c ≠ i2 → s.heap.get? c = some o → h'.get? c = some o) → Q (.ref s.heap.objs.size) { s with heap := h' }) :
    wpAny (model prog w) A (Builtin.«zip.__next__» ⟨[.ref z], []⟩) (fun fin s' => ∃ v, fin = .done (.ret v) ∧ Q v s') E s := by
  show wpAny _ _ (field (.ref z) 2 >>= _) _ _ _
  refine wpAny_bind (wpAny_field hz rfl (x := .bool true) rfl ?_)
  show wpAny _ _ (field (.ref z) 3 >>= _) _ _ _
  refine wpAny_bind (wpAny_field hz rfl (x := .ref TI) rfl (wpAny_bind (wpAny_seqItems hTI rfl ?_)))
  show wpAny _ _ (Builtin.SmallTypes.ownedTupleIsFree (.ref z) >>= _) _ _ _
  refine wpAny_bind ?_
  unfold Builtin.SmallTypes.ownedTupleIsFree
  refine wpAny_bind (wpAny_field hz rfl (x := .none) rfl (wpAny_pure ?_))
  simp only [if_true]
  refine wpAny_bind (wpAny_rule (wpAny_bind (wpAny_field hz rfl (x := .ref TO) rfl ?_)))
  refine wpAny_bind (wpAny_setField_rec hz (by simp) fun h₁ hz₁ hs₁ => ?_)
  replace hz₁ : ZipS h₁ z TI TO .ellipsis := hz₁
  refine wpAny_bind ?_
  simp only [List.zipIdx_cons, List.zipIdx_nil, List.forIn_cons, List.forIn_nil]
  refine wpAny_bind (wpAny_bind (wpAny_onRaise ?_))
  show wpAny _ _ (Builtin.SmallTypes.nextOrEnd (.ref i1)) _ _ _
  refine one_item (h1.ext hs₁.extBut D.i1z) (hl1.ext hs₁.extBut D.l1z) hx fun h₂ h1₂ hs₂ => ?_
  have hTO₂ : IsPair h₂ TO a b := hs₂.extBut _ _ D.TOi1 (hs₁.extBut _ _ D.TOz hTO)
  refine wpAny_bind (wpAny_seqItems hTO₂ rfl (wpAny_bind (wpAny_updateSeq_pair hTO₂ fun h₃ hTO₃ hs₃ => ?_)))
  replace hTO₃ : IsPair h₃ TO x b := hTO₃
  refine wpAny_bind (wpAny_letGo (wpAny_pure (wpAny_bind (wpAny_bind (wpAny_onRaise ?_)))))
  show wpAny _ _ (Builtin.SmallTypes.nextOrEnd (.ref i2)) _ _ _
  refine one_item (((h2.ext hs₁.extBut D.i2z).ext hs₂.extBut D.i12.symm).ext hs₃.extBut D.TOi2.symm) (((hl2.ext hs₁.extBut D.l2z).ext hs₂.extBut D.l2i1).ext hs₃.extBut D.l2TO) hy fun h₄ h2₄ hs₄ => ?_
  have hTO₄ : IsPair h₄ TO x b := hs₄.extBut _ _ D.TOi2 hTO₃
  refine wpAny_bind (wpAny_seqItems hTO₄ rfl (wpAny_bind (wpAny_updateSeq_pair hTO₄ fun h₅ hTO₅ hs₅ => ?_)))
  replace hTO₅ : IsPair h₅ TO x y := hTO₅
  refine wpAny_bind (wpAny_letGo (wpAny_pure (wpAny_pure (wpAny_bind (wpAny_seqItems hTO₅ rfl (wpAny_bind (wpAny_newTuple ?_)))))))
  have hsz : h₅.objs.size = s.heap.objs.size := by rw [hs₅.1, hs₄.1, hs₃.1, hs₂.1, hs₁.1]
  have hz₅ : ZipS h₅ z TI TO .ellipsis := hs₅.extBut _ _ D.TOz.symm (hs₄.extBut _ _ D.i2z.symm (hs₃.extBut _ _ D.TOz.symm (hs₂.extBut _ _ D.i1z.symm hz₁)))
  have hk₅ : ∀ c o, c ≠ z → c ≠ TO → c ≠ i1 → c ≠ i2 → s.heap.get? c = some o → h₅.get? c = some o := fun c o n1 n2 n3 n4 q =>
    hs₅.extBut _ _ n2 (hs₄.extBut _ _ n4 (hs₃.extBut _ _ n2 (hs₂.extBut _ _ n3 (hs₁.extBut _ _ n1 q))))
  have h1₅ : ItK b1 h₅ i1 l1 (k1 + 1) := ((h1₂.ext hs₃.extBut D.TOi1.symm).ext hs₄.extBut D.i12).ext hs₅.extBut D.TOi1.symm
  have h2₅ : ItK b2 h₅ i2 l2 (k2 + 1) := h2₄.ext hs₅.extBut D.TOi2.symm
  have hzlt : z < h₅.objs.size := Heap.lt_size hz₅
  show wpAny _ _ (Builtin.SmallTypes.ownedTupleHandOut (.ref z) (.ref h₅.objs.size) >>= _) _ _ _
  refine wpAny_bind ?_
  unfold Builtin.SmallTypes.ownedTupleHandOut
  have hz₆ : ZipS (h₅.push { cls := .type "tuple", data := .seq #[x, y] }) z TI TO .ellipsis := Heap.get?_push_of_some _ hz₅
  refine wpAny_bind (wpAny_setField_rec hz₆ (by simp) fun h₇ hz₇ hs₇ => ?_)
  replace hz₇ : ZipS h₇ z TI TO (rawInt h₅.objs.size) := hz₇
  refine wpAny_setField_rec hz₇ (by simp) fun h₈ hz₈ hs₈ => ?_
  replace hz₈ : ZipS h₈ z TI TO (rawInt h₅.objs.size) := hz₈
  have up : ∀ c o, c ≠ z → h₅.get? c = some o → h₈.get? c = some o := fun c o n1 q => hs₈.extBut _ _ n1 (hs₇.extBut _ _ n1 (Heap.get?_push_of_some _ q))
  have hT₈ : IsPair h₈ h₅.objs.size x y := hs₈.extBut _ _ (Nat.ne_of_gt hzlt) (hs₇.extBut _ _ (Nat.ne_of_gt hzlt) (Heap.get?_push_size _ rfl))
  have hz8 : h₈.objs.size = h₅.objs.size + 1 := by rw [hs₈.1, hs₇.1, Heap.size_push]
  rw [hsz] at hz₈ hT₈ hz8
  refine wpAny_pure ⟨_, rfl, ?_⟩
  show Q (.ref h₅.objs.size) _
  rw [hsz]
  exact hQ h₈ hz₈ (up _ _ D.TOz hTO₅) (h1₅.at fun o q => up _ o D.i1z q) (h2₅.at fun o q => up _ o D.i2z q) hT₈ hz8 fun c o n1 n2 n3 n4 q => up c o n1 (hk₅ c o n1 n2 n3 n4 q)
theorem stop_now {Q : Fin → Shared → Prop} (hh : A.handled = none) (hE : ∀ h' e, (∀ c o, s.heap.get? c = some o → h'.get? c = some o) → (∃ o, h'.get? e = some o ∧ o.cls = .type "StopIteration") → E (.ref e) { s with heap := h' }) :
    wpAny (model prog w) A (Builtin.SmallTypes.stopIteration) Q E s := by
  show wpAny _ _ (newExc (.type "StopIteration") [] >>= _) _ _ _
  refine wpAny_bind ?_
  simp only [newExc, newTuple]
  refine wpAny_bind (wpAny_newObj_type ?_ (by size_fits))
  refine wpAny_bind (m := firstArgMember _ _) (wpAny_of_eq (a := Value.none) (by first | rfl | (simp only [firstArgMember]; rfl)) (wpAny_newObj_type ?_ (by size_fits)))
  simp only [raiseNew]
  refine wpAny_bind (wpAny_handled ?_)
  first | rw [show A.in1.handled = none from hh] | rw [hh]
  refine wpAny_bind (wpAny_pure (wpAny_throw ?_))
  exact hE _ _ (fun c o q => Heap.get?_push_of_some _ (Heap.get?_push_of_some _ q)) ⟨_, Heap.get?_push_size _ rfl, rfl⟩
theorem end_in {z TI TO i1 i2 l1 l2 : Addr} {k1 k2 : Nat} {xs ys : Array Value} {a b : Value} {Q : Fin → Shared → Prop} (hh : A.handled = none) (D : ZipApart z TI TO i1 i2 l1 l2)
    (hz : ZipS s.heap z TI TO .none) (hTI : IsPair s.heap TI (.ref i1) (.ref i2)) (hTO : IsPair s.heap TO a b)
    (h1 : ItK b1 s.heap i1 l1 k1) (h2 : ItK b2 s.heap i2 l2 k2) (hl1 : SqK b1 s.heap l1 xs) (hl2 : SqK b2 s.heap l2 ys) (hx : xs[k1]? = none) (hy : ys[k2]? = none)
    (hE : ∀ h' e, (∀ c o, c ≠ z → c ≠ TO → c ≠ i1 → c ≠ i2 → s.heap.get? c = some o → h'.get? c = some o) → (∃ o, h'.get? e = some o ∧ o.cls = .type "StopIteration") → E (.ref e) { s with heap := h' }) :
    wpAny (model prog w) A (Builtin.«zip.__next__» ⟨[.ref z], []⟩) Q E s := by
  show wpAny _ _ (field (.ref z) 2 >>= _) _ _ _
  refine wpAny_bind (wpAny_field hz rfl (x := .bool true) rfl ?_)
  show wpAny _ _ (field (.ref z) 3 >>= _) _ _ _
  refine wpAny_bind (wpAny_field hz rfl (x := .ref TI) rfl (wpAny_bind (wpAny_seqItems hTI rfl ?_)))
  show wpAny _ _ (Builtin.SmallTypes.ownedTupleIsFree (.ref z) >>= _) _ _ _
  refine wpAny_bind ?_
  unfold Builtin.SmallTypes.ownedTupleIsFree
  refine wpAny_bind (wpAny_field hz rfl (x := .none) rfl (wpAny_pure ?_))
  simp only [if_true]
  refine wpAny_bind (wpAny_rule (wpAny_bind (wpAny_field hz rfl (x := .ref TO) rfl ?_)))
  refine wpAny_bind (wpAny_setField_rec hz (by simp) fun h₁ hz₁ hs₁ => ?_)
  replace hz₁ : ZipS h₁ z TI TO .ellipsis := hz₁
  refine wpAny_bind ?_
  simp only [List.zipIdx_cons, List.zipIdx_nil, List.forIn_cons, List.forIn_nil]
  refine wpAny_bind (wpAny_bind (wpAny_onRaise ?_))
  show wpAny _ _ (Builtin.SmallTypes.nextOrEnd (.ref i1)) _ _ _
  refine one_end hh (h1.ext hs₁.extBut D.i1z) (hl1.ext hs₁.extBut D.l1z) hx fun h₂ hs₂ => ?_
  have hz₂ : ZipS h₂ z TI TO .ellipsis := hs₂ _ _ D.i1z.symm hz₁
  refine wpAny_bind (wpAny_setField_rec hz₂ (by simp) fun h₃ hz₃ hs₃ => wpAny_bind ?_)
  show wpAny _ _ (forIn (([Value.ref i1, Value.ref i2].drop 1).zipIdx 1) PUnit.unit _ >>= _) _ _ _
  simp only [List.drop_succ_cons, List.drop_zero, List.zipIdx_cons, List.zipIdx_nil, List.forIn_cons, List.forIn_nil]
  refine wpAny_bind (wpAny_bind (wpAny_bind ?_))
  have e2 : ItK b2 h₃ i2 l2 k2 := ((h2.ext hs₁.extBut D.i2z).ext hs₂ D.i12.symm).ext hs₃.extBut D.i2z
  have l2' : SqK b2 h₃ l2 ys := ((hl2.ext hs₁.extBut D.l2z).ext hs₂ D.l2i1).ext hs₃.extBut D.l2z
  refine one_end hh e2 l2' hy fun h₄ hs₄ => ?_
  refine wpAny_pure (wpAny_pure (wpAny_bind (wpAny_rule ?_)))
  exact stop_now hh fun h' e k he => hE h' e (fun c o n1 _ n3 n4 q => k c o (hs₄ _ _ n4 (hs₃.extBut _ _ n1 (hs₂ _ _ n3 (hs₁.extBut _ _ n1 q))))) he
theorem pyNext_item {z TI TO i1 i2 l1 l2 : Addr} {k1 k2 : Nat} {xs ys : Array Value} {x y a b : Value} {Q : Option Value → Shared → Prop} (D : ZipApart z TI TO i1 i2 l1 l2)
    (hz : ZipS s.heap z TI TO .none) (hTI : IsPair s.heap TI (.ref i1) (.ref i2)) (hTO : IsPair s.heap TO a b)
    (h1 : ItK b1 s.heap i1 l1 k1) (h2 : ItK b2 s.heap i2 l2 k2) (hl1 : SqK b1 s.heap l1 xs) (hl2 : SqK b2 s.heap l2 ys) (hx : xs[k1]? = some x) (hy : ys[k2]? = some y)
    (hQ : ∀ h', ZipS h' z TI TO (rawInt s.heap.objs.size) → IsPair h' TO x y → ItK b1 h' i1 l1 (k1 + 1) → ItK b2 h' i2 l2 (k2 + 1) → IsPair h' s.heap.objs.size x y → h'.objs.size = s.heap.objs.size + 1 →
      (∀ c o, c ≠ z → c ≠ TO → c ≠ i1 → c ≠ i2 → s.heap.get? c = some o → h'.get? c = some o) → Q (some (.ref s.heap.objs.size)) { s with heap := h' }) :
    wpAny (model prog w) A (pyNext (.ref z)) Q E s := by
  have hT : s.TypeIs (.ref z) "zip" := ⟨_, hz, rfl⟩
  unfold pyNext
  exact wpAny_bind (wpAny_attempt (wpAny_callSpecial?_slot (name := Str.ofString "__next__") hT F.slot_zip_next
    (wpAny_call_entry F.slot_zip_next hT F.entry_zip_next (item_in D hz hTI hTO h1 h2 hl1 hl2 hx hy fun h' a1 a2 a3 a4 a5 a6 a7 => wpAny_pure (hQ h' a1 a2 a3 a4 a5 a6 a7)) (F.args_zip_next_1 _))))
theorem pyNext_end {z TI TO i1 i2 l1 l2 : Addr} {k1 k2 : Nat} {xs ys : Array Value} {a b : Value} {Q : Option Value → Shared → Prop} (hh : A.handled = none) (D : ZipApart z TI TO i1 i2 l1 l2)
    (hz : ZipS s.heap z TI TO .none) (hTI : IsPair s.heap TI (.ref i1) (.ref i2)) (hTO : IsPair s.heap TO a b)
    (h1 : ItK b1 s.heap i1 l1 k1) (h2 : ItK b2 s.heap i2 l2 k2) (hl1 : SqK b1 s.heap l1 xs) (hl2 : SqK b2 s.heap l2 ys) (hx : xs[k1]? = none) (hy : ys[k2]? = none)
    (hQ : ∀ h', (∀ c o, c ≠ z → c ≠ TO → c ≠ i1 → c ≠ i2 → s.heap.get? c = some o → h'.get? c = some o) → Q none { s with heap := h' }) : wpAny (model prog w) A (pyNext (.ref z)) Q E s := by
  have hT : s.TypeIs (.ref z) "zip" := ⟨_, hz, rfl⟩
  unfold pyNext
  refine wpAny_bind (wpAny_attempt (wpAny_callSpecial?_slot (name := Str.ofString "__next__") hT F.slot_zip_next
    (wpAny_call_entry F.slot_zip_next hT F.entry_zip_next (end_in hh D hz hTI hTO h1 h2 hl1 hl2 hx hy fun h' e hk he => ?_) (F.args_zip_next_1 _))))
  obtain ⟨o, ho, hc⟩ := he
  exact wpAny_bind (wpAny_isInstance (T := "StopIteration") (b := true) ⟨o, ho, hc⟩ isSubtype_stop (wpAny_pure (hQ _ hk)))
theorem go_zipS {elts : List Expr} {x1} {pos : Pos} {z TI TO T : Addr} {Q : Unit → Shared → Prop} (hz : ZipS s.heap z TI TO (rawInt T))
    (hQ : ∀ h', ZipS h' z TI TO .none → Heap.SameBut z s.heap h' → Q () { s with heap := h' }) : wpAny (model prog w) A (letOwnedTupleGo (.Tuple elts x1 pos) (.ref z) (.ref T)) Q E s := by
  unfold letOwnedTupleGo
  refine wpAny_bind (wpAny_load hz ?_)
  show wpAny _ _ (if (["enumerate", "zip", "dict_itemiterator", "dict_reverseitemiterator", "odict_iterator", "itertools.zip_longest", "itertools.pairwise"].contains "zip" && (#[rawInt T, .bool false, .bool true, .ref TI, .ref TO] : Array Value)[0]? == some (rawInt T)) = true then _ else _) Q E s
  rw [if_pos (by simp)]
  refine wpAny_bind (wpAny_rule ?_)
  exact wpAny_setField_rec hz (by simp) fun h' hz' hs' => hQ h' hz' hs'
theorem iter_zipS {z TI TO : Addr} {f0 : Value} {Q : Value → Shared → Prop} (hz : ZipS s.heap z TI TO f0) (h : Q (.ref z) s) : wpAny (model prog w) A (pyIter (.ref z)) Q E s := by
  have hT : s.TypeIs (.ref z) "zip" := ⟨_, hz, rfl⟩
  refine wpAny_pyIter_slot hT F.slot_zip_iter (wpAny_call_entry F.slot_zip_iter hT F.entry_zip_iter ?_ (F.args_zip_iter_1 _))
  show wpAny _ _ (ret (.ref z)) _ _ s
  exact wpAny_pure ⟨_, rfl, "zip", _, hT, F.slot_zip_next.lookup, h⟩
end
/-! making it -/
def itO (b : Bool) (l : Addr) : Obj := { cls := .type (if b = true then "list_iterator" else "tuple_iterator"), data := .fields #[.ref l, .int 0 0] }
abbrev sH1 (b1 : Bool) (h : Heap) (l1 : Addr) : Heap := h.push (itO b1 l1)
abbrev sH2 (b1 b2 : Bool) (h : Heap) (l1 l2 : Addr) : Heap := (sH1 b1 h l1).push (itO b2 l2)
abbrev sH3 (b1 b2 : Bool) (h : Heap) (l1 l2 : Addr) : Heap := (sH2 b1 b2 h l1 l2).push { cls := .type "tuple", data := .seq #[.ref h.objs.size, .ref (sH1 b1 h l1).objs.size] }
abbrev sH4 (b1 b2 : Bool) (h : Heap) (l1 l2 : Addr) : Heap := (sH3 b1 b2 h l1 l2).push { cls := .type "tuple", data := .seq #[.none, .none] }
abbrev sH5 (b1 b2 : Bool) (h : Heap) (l1 l2 : Addr) : Heap := (sH4 b1 b2 h l1 l2).push { cls := .type "zip", data := .fields #[.none, .bool false, .bool true, .ref (sH2 b1 b2 h l1 l2).objs.size, .ref (sH3 b1 b2 h l1 l2).objs.size] }
theorem typeCall_zipS (a b : Value) : checkTypeCall "zip" ⟨[a, b], [(Str.ofString "strict", .bool true)]⟩ = pure () := by kernel_rfl
theorem newCall_zipS (a b : Value) : checkBuiltinCall "zip.__new__" ⟨[.type "zip", a, b], [(Str.ofString "strict", .bool true)]⟩ = pure () := by kernel_rfl
theorem args_zipS (obj a b : Value) : argsOk "object.__init__" ⟨[obj, a, b], [(Str.ofString "strict", .bool true)]⟩ := by unfold argsOk; kernel_rfl
theorem SqK.iter {prog : Program} {w : World} {A : Around} {E : Value → Shared → Prop} {s : Shared} {b : Bool} {l : Addr} {xs : Array Value} {Q : Value → Shared → Prop} (hl : SqK b s.heap l xs)
    (h : Q (.ref s.heap.objs.size) { s with heap := s.heap.push (itO b l) }) : wpAny (model prog w) A (pyIter (.ref l)) Q E s := by
  cases b
  · exact wpAny_pyIter_tuple hl h
  · exact wpAny_pyIter_list hl h
theorem SqK.push {b : Bool} {h : Heap} {l : Addr} {xs : Array Value} (i : SqK b h l xs) (o : Obj) : SqK b (h.push o) l xs := by
  cases b
  · exact Heap.IsTuple.push i _
  · exact Heap.IsList.push i _
set_option maxHeartbeats 4000000 in
theorem meets_zipS (b1 b2 : Bool) (l1 l2 : Addr) (xs ys : Array Value) :
    Meets (Builtin.«zip.__new__» ⟨[.type "zip", .ref l1, .ref l2], [(Str.ofString "strict", .bool true)]⟩) (fun _ R s => SqK b1 s.heap l1 xs ∧ SqK b2 s.heap l2 ys ∧
      R (.ok (.ret (.ref (sH4 b1 b2 s.heap l1 l2).objs.size))) { s with heap := sH5 b1 b2 s.heap l1 l2 }) :=
  .of_wp fun prog w A R s h => by
    obtain ⟨hp, g, d, tk, os⟩ := s; obtain ⟨hl1, hl2, h⟩ := h
    have hsub := sub_zip
    have q1 : ∀ {A' : Around} {E : Value → Shared → Prop} {Q : Value → Shared → Prop}, Q (.ref hp.objs.size) ⟨hp.push (itO b1 l1), g, d, tk, os⟩ → wpAny (model prog w) A' (pyIter (.ref l1)) Q E ⟨hp, g, d, tk, os⟩ :=
      fun q => SqK.iter (s := ⟨hp, g, d, tk, os⟩) hl1 q
    have q2 : ∀ {A' : Around} {E : Value → Shared → Prop} {Q : Value → Shared → Prop}, Q (.ref (hp.push (itO b1 l1)).objs.size) ⟨(hp.push (itO b1 l1)).push (itO b2 l2), g, d, tk, os⟩ → wpAny (model prog w) A' (pyIter (.ref l2)) Q E ⟨hp.push (itO b1 l1), g, d, tk, os⟩ :=
      fun q => SqK.iter (s := ⟨hp.push (itO b1 l1), g, d, tk, os⟩) (hl2.push _) q
    have e1 : (Str.ofString "strict" != ("strict" : Str)) = false := by decide +kernel
    wp_walk using q1, q2
    exact ⟨_, rfl, h⟩
theorem itO_at {b : Bool} {h : Heap} {it l : Addr} (e : h.get? it = some (itO b l)) : ItK b h it l 0 := by
  cases b
  · exact ⟨_, e, rfl, rfl⟩
  · exact ⟨_, e, rfl, rfl⟩
theorem call_zipS {prog : Program} {w : World} {A : Around} {E : Value → Shared → Prop} {s : Shared} {b1 b2 : Bool} {l1 l2 : Addr} {xs ys : Array Value} {Q : Value → Shared → Prop} (hl1 : SqK b1 s.heap l1 xs) (hl2 : SqK b2 s.heap l2 ys)
    (h : ∀ h', ZipS h' (s.heap.objs.size + 4) (s.heap.objs.size + 2) (s.heap.objs.size + 3) .none → IsPair h' (s.heap.objs.size + 2) (.ref s.heap.objs.size) (.ref (s.heap.objs.size + 1)) →
      IsPair h' (s.heap.objs.size + 3) .none .none → ItK b1 h' s.heap.objs.size l1 0 → ItK b2 h' (s.heap.objs.size + 1) l2 0 → h'.objs.size = s.heap.objs.size + 5 →
      (∀ c o, s.heap.get? c = some o → h'.get? c = some o) → Q (.ref (s.heap.objs.size + 4)) { s with heap := h' }) :
    wpAny (model prog w) A (call (.type "zip") [.ref l1, .ref l2] [(Str.ofString "strict", .bool true)]) Q E s := by
  refine callType_newKw F.called_zip (by decide) (typeCall_zipS _ _) (newCall_zipS _ _) (fun obj => args_zipS obj _ _) F.entry_zip_new (meets_zipS b1 b2 l1 l2 xs ys) ⟨hl1, hl2, ?_⟩
  have z1 : (sH1 b1 s.heap l1).objs.size = s.heap.objs.size + 1 := Heap.size_push ..
  have z2 : (sH2 b1 b2 s.heap l1 l2).objs.size = s.heap.objs.size + 2 := by rw [Heap.size_push, z1]
  have z3 : (sH3 b1 b2 s.heap l1 l2).objs.size = s.heap.objs.size + 3 := by rw [Heap.size_push, z2]
  have z4 : (sH4 b1 b2 s.heap l1 l2).objs.size = s.heap.objs.size + 4 := by rw [Heap.size_push, z3]
  have z5 : (sH5 b1 b2 s.heap l1 l2).objs.size = s.heap.objs.size + 5 := by rw [Heap.size_push, z4]
  have up : ∀ (h : Heap) (o : Obj) (c : Addr) (q : Obj), h.get? c = some q → (h.push o).get? c = some q := fun h o c q e => Heap.get?_push_of_some _ e
  have g5 : (sH5 b1 b2 s.heap l1 l2).get? (sH4 b1 b2 s.heap l1 l2).objs.size = some _ := Heap.get?_push_size _ rfl
  have g4 : (sH5 b1 b2 s.heap l1 l2).get? (sH3 b1 b2 s.heap l1 l2).objs.size = some _ := up _ _ _ _ (Heap.get?_push_size _ rfl)
  have g3 : (sH5 b1 b2 s.heap l1 l2).get? (sH2 b1 b2 s.heap l1 l2).objs.size = some _ := up _ _ _ _ (up _ _ _ _ (Heap.get?_push_size _ rfl))
  have f2 : (itO b2 l2).isFreed = false := by cases b2 <;> rfl
  have f1 : (itO b1 l1).isFreed = false := by cases b1 <;> rfl
  have g2 : (sH5 b1 b2 s.heap l1 l2).get? (sH1 b1 s.heap l1).objs.size = some _ := up _ _ _ _ (up _ _ _ _ (up _ _ _ _ (Heap.get?_push_size _ f2)))
  have g1 : (sH5 b1 b2 s.heap l1 l2).get? s.heap.objs.size = some _ := up _ _ _ _ (up _ _ _ _ (up _ _ _ _ (up _ _ _ _ (Heap.get?_push_size _ f1))))
  show _ ∧ _
  rw [z2, z3, z4] at g5
  rw [z1, z2] at g3
  rw [z3] at g4
  rw [z1] at g2
  rw [z4]
  exact ⟨⟨_, g5, rfl⟩, h _ g5 g3 g4 (itO_at g1) (itO_at g2) z5 fun c o x => up _ _ _ _ (up _ _ _ _ (up _ _ _ _ (up _ _ _ _ (up _ _ _ _ x))))⟩
end DZ

/-! DZ2 -/
set_option maxHeartbeats 1000000
/-! zip(.., strict=True), sum(.., start=0) over the hand layer -/
namespace DZ
open PySem PySem.Spec PyProof.Rows L2
def SqX (b : Bool) (K : PySem.W.Frag) (H : Hp) (a : Addr) (xs : List V) : Prop := if b = true then SqL K H a xs else SqT K H a xs
theorem SqX.open_ {X : Cx} {pins : List (Addr × Obj)} {σ : L2.St} {H : Hp} {s : Shared} {b : Bool} {a : Addr} {xs : List V} (I : Inv X pins σ H s) (h : SqX b X.K H a xs) : ∃ its : List Value, Vals xs its ∧ SqK b s.heap a its.toArray ∧ a < s.heap.objs.size := by
  cases b
  · obtain ⟨its, r, p, _⟩ := I.tuple (show SqT X.K H a xs from h)
    obtain ⟨o, e, _⟩ := id p
    exact ⟨its, r, p, Heap.lt_size e⟩
  · obtain ⟨its, r, p, _⟩ := I.list (show SqL X.K H a xs from h)
    exact ⟨its, r, p.isList, p.lt⟩
theorem SqX.inj {X : Cx} {pins : List (Addr × Obj)} {σ : L2.St} {H : Hp} {s : Shared} {b : Bool} {a : Addr} {xs ys : List V} (I : Inv X pins σ H s) (h : SqX b X.K H a xs) (h' : SqX b X.K H a ys) : xs = ys := by
  cases b
  · exact I.tuple_inj h h'
  · exact I.list_inj h h'
/-- two of one length, walked side by side -/
def ItzS (K : PySem.W.Frag) (p q : Bool) (a b : Addr) : It :=
  ⟨fun i H => ∃ (xs ys : List V) (x y : V), SqX p K H a xs ∧ SqX q K H b ys ∧ xs[i]? = some x ∧ ys[i]? = some y,
    fun i H v H' => ∃ T x y, v = .ref T ∧ H T = none ∧ H' = upd H T (.tup [x, y]) ∧ (∀ xs, SqX p K H a xs → xs[i]? = some x) ∧ ∀ ys, SqX q K H b ys → ys[i]? = some y,
    fun i H => ∃ xs ys : List V, SqX p K H a xs ∧ SqX q K H b ys ∧ xs.length ≤ i ∧ ys.length ≤ i⟩
theorem turn_zipS {P : Program} {w : World} {K : PySem.W.Frag} {elts : List Expr} {kk : Nat} {tpos : Pos} {p q : Bool} {a b z TI TO i1 i2 : Addr} (D : ZipApart z TI TO i1 i2 a b) :
    Turn P w K (.Tuple elts kk tpos) (ItzS K p q a b) [z, TI, TO, i1, i2] z (fun i h => ZipS h z TI TO .none ∧ IsPair h TI (.ref i1) (.ref i2) ∧ (∃ x y, IsPair h TO x y) ∧ ItK p h i1 a i ∧ ItK q h i2 b i) where
  mem := List.mem_cons_self ..
  obj := fun i h st c hc => by
    obtain ⟨hz, hTI, ⟨x, y, hTO⟩, h1, h2⟩ := st
    have k1 : ∀ {bb : Bool} {it l : Addr} {j : Nat}, ItK bb h it l j → ∃ o, h.get? it = some o ∧ ∀ v, o.data ≠ .cell v := fun {bb it l j} k => by
      cases bb
      · obtain ⟨o, e, _, d⟩ := (show h.IsTupleIter it l j from k); exact ⟨o, e, fun v z => by rw [d] at z; cases z⟩
      · obtain ⟨o, e, _, d⟩ := (show h.IsListIter it l j from k); exact ⟨o, e, fun v z => by rw [d] at z; cases z⟩
    simp only [List.mem_cons, List.not_mem_nil, or_false] at hc
    rcases hc with rfl | rfl | rfl | rfl | rfl
    · exact ⟨_, hz, fun v z => nomatch z⟩
    · exact ⟨_, hTI, fun v z => nomatch z⟩
    · exact ⟨_, hTO, fun v z => nomatch z⟩
    · exact k1 h1
    · exact k1 h2
  keep := fun i h h' st k => by
    obtain ⟨hz, hTI, ⟨x, y, hTO⟩, h1, h2⟩ := st
    exact ⟨k z (by simp) _ hz, k TI (by simp) _ hTI, ⟨x, y, k TO (by simp) _ hTO⟩, h1.at fun o e => k i1 (by simp) o e, h2.at fun o e => k i2 (by simp) o e⟩
  item := by
    intro X hP hw hK hc i pins s σ H E I hf st hg
    subst hP hw hK
    obtain ⟨hz, hTI, ⟨x0, y0, hTO⟩, h1, h2⟩ := st
    obtain ⟨xs, ys, x, y, hqx, hqy, hx, hy⟩ := hg
    obtain ⟨its, rv, p1, _⟩ := hqx.open_ I
    obtain ⟨its2, rv2, p2, _⟩ := hqy.open_ I
    obtain ⟨u, hu, ru⟩ := rv.get hx
    obtain ⟨u2, hu2, ru2⟩ := rv2.get hy
    have hzl : z < s.heap.objs.size := Heap.lt_size hz
    refine pyNext_item D hz hTI hTO h1 h2 p1 p2 (x := u) (y := u2) (by simpa using hu) (by simpa using hu2) fun h' z' TO' h1' h2' hT hsz hk => ?_
    refine ⟨_, rfl, go_zipS (s := { s with heap := h' }) z' fun h'' z'' sb => ?_⟩
    have hT2 : h''.get? s.heap.objs.size = some { cls := .type "tuple", data := .seq #[u, u2] } := (sb.2 _ (Nat.ne_of_gt hzl)).trans hT
    have new : ObjOk X.prog X.w (upd H s.heap.objs.size (.tup [x, y])) h'' s.heap.objs.size (.tup [x, y]) :=
      ⟨by show 2 ≤ sizeLine; decide, [u, u2], .cons ru (.cons ru2 .nil), ⟨_, hT2, rfl, _, rfl⟩⟩
    have out : ∀ {c : Addr}, c ∉ [z, TI, TO, i1, i2] → c ≠ z ∧ c ≠ TO ∧ c ≠ i1 ∧ c ≠ i2 := fun hb => by
      simp only [List.mem_cons, List.not_mem_nil, or_false, not_or] at hb
      exact ⟨hb.1, hb.2.2.1, hb.2.2.2.1, hb.2.2.2.2⟩
    have I1 : Inv X pins σ (upd H s.heap.objs.size (.tup [x, y])) { s with heap := h'' } :=
      I.turnedNew (t' := s.toks) (ch := [z, TI, TO, i1, i2]) (fun c o hb e => (sb.2 c (out hb).1).trans (hk c o (out hb).1 (out hb).2.1 (out hb).2.2.1 (out hb).2.2.2 e)) hf (Nat.le_refl _) new
    refine ⟨.ref s.heap.objs.size, _, I1, rfl, ⟨_, x, y, rfl, I.hok.fresh (Nat.le_refl _), rfl, fun l hl => by rw [hl.inj I hqx]; exact hx, fun l hl => by rw [hl.inj I hqy]; exact hy⟩, ⟨z'', ?_, ⟨u, u2, ?_⟩, ?_, ?_⟩, fun c hcm => ?_⟩
    · exact (sb.2 _ D.TIz).trans (hk _ _ D.TIz D.TITO D.TIi1 D.TIi2 hTI)
    · exact (sb.2 _ D.TOz).trans TO'
    · exact h1'.at fun o e => (sb.2 _ D.i1z).trans e
    · exact h2'.at fun o e => (sb.2 _ D.i2z).trans e
    · have hlt : c < s.heap.objs.size := by
        obtain ⟨_, e1⟩ := h1.there
        obtain ⟨_, e2⟩ := h2.there
        simp only [List.mem_cons, List.not_mem_nil, or_false] at hcm
        rcases hcm with rfl | rfl | rfl | rfl | rfl
        · exact hzl
        · exact Heap.lt_size hTI
        · exact Heap.lt_size hTO
        · exact Heap.lt_size e1
        · exact Heap.lt_size e2
      rw [upd_ne (Nat.ne_of_lt hlt)]
      exact (hf c hcm).1
  done := by
    intro X hP hw hK hc i pins s σ H E I hf st hg
    subst hP hw hK
    obtain ⟨hz, hTI, ⟨x0, y0, hTO⟩, h1, h2⟩ := st
    obtain ⟨xs, ys, hqx, hqy, n1, n2⟩ := hg
    obtain ⟨its, rv, p1, _⟩ := hqx.open_ I
    obtain ⟨its2, rv2, p2, _⟩ := hqy.open_ I
    have l1 := rv.length
    have l2 := rv2.length
    have out : ∀ {c : Addr}, c ∉ [z, TI, TO, i1, i2] → c ≠ z ∧ c ≠ TO ∧ c ≠ i1 ∧ c ≠ i2 := fun hb => by
      simp only [List.mem_cons, List.not_mem_nil, or_false, not_or] at hb
      exact ⟨hb.1, hb.2.2.1, hb.2.2.2.1, hb.2.2.2.2⟩
    exact pyNext_end (I.ok.hd hc) D hz hTI hTO h1 h2 p1 p2 (by simp; omega) (by simp; omega) fun h' hk => ⟨rfl, I.turnedL (t' := s.toks) (ch := [z, TI, TO, i1, i2]) (fun c o hb e => hk c o (out hb).1 (out hb).2.1 (out hb).2.2.1 (out hb).2.2.2 e) hf⟩
  self := fun A i s Q E st h => iter_zipS st.1 h
def iZipS (K : PySem.W.Frag) (ta : TA) : TI := fun σ H R => ta σ H fun vs H1 => ∃ (p q : Bool) (a b : Addr) (xs ys : List V), vs = [.ref a, .ref b] ∧ SqX p K H1 a xs ∧ SqX q K H1 b ys ∧ R (ItzS K p q a b) H1
/-- a built-in class or function called with keywords -/
theorem callWith_kwB {M : Model} {A : Around} {E : Value → Shared → Prop} {s : Shared} {pos : Pos} {f : Value} {e : Expr} {rest : List Expr} {kws : List Keyword} {env : Env} {Q : Value → Shared → Prop} (hf : (∃ T, f = .type T) ∨ ∃ i, f = .builtin i)
    (h : wpAny M A (spliced (backTo pos (starEach (e :: rest) env))) (fun vs s₁ => wpAny M A (evalAll ((backToKw pos (keywordEach kws env)).map (·.2)))
      (fun ks s₂ => wpAny M A (call f vs (((backToKw pos (keywordEach kws env)).filterMap (·.1)).zip ks)) Q E s₂) E s₁) E s)
    (hall : (backToKw pos (keywordEach kws env)).all (·.1.isSome) = true) (he : starEach (e :: rest) env = (false, eval e env) :: starEach rest env)
    (hplain : ((backTo pos (starEach (e :: rest) env)).any (·.1) || (backToKw pos (keywordEach kws env)).any (·.1.isNone)) = false) :
    wpAny M A (callWith pos f [] (backTo pos (starEach (e :: rest) env)) (backToKw pos (keywordEach kws env))) Q E s := by
  have g : wpAny M A (evalArgs f true (backTo pos (starEach (e :: rest) env)) (backToKw pos (keywordEach kws env))) (fun a s₁ => wpAny M A (call f ([] ++ a.pos) a.kw) Q E s₁) E s := by
    rw [he] at h ⊢
    exact evalArgs_kwB hall h
  unfold callWith
  refine wpAny_bind (wpAny_holding (wpAny_mono g (fun a s₁ h₁ => wpAny_bind (wpAny_standAt ?_)) fun _ _ x => x))
  simp only [hplain]
  rcases hf with ⟨T, rfl⟩ | ⟨T, rfl⟩
  · refine wpAny_bind (wpAny_pure ?_)
    exact wpAny_bind (wpAny_mono h₁ (fun r s₂ hr => wpAny_bind (wpAny_holding (wpAny_point (wpAny_pure hr)))) fun _ _ x => x)
  · refine wpAny_bind (wpAny_pure ?_)
    exact wpAny_bind (wpAny_mono h₁ (fun r s₂ hr => wpAny_bind (wpAny_holding (wpAny_point (wpAny_pure hr)))) fun _ _ x => x)
theorem pi_zipS {X : Cx} {e e2 : Expr} {ta tk : TA} {kws : List Keyword} {p pos tpos : Pos} {elts : List Expr} {kk : Nat} (hg : Gl X "zip") (hm : X.mg "zip" = none) (ha : PA X [e, e2] ta) (hkw : PK X kws tk)
    (hall : (backToKw pos (keywordEach kws X.env)).all (·.1.isSome) = true := by rfl) (hks : (backToKw pos (keywordEach kws X.env)).filterMap (·.1) = [Str.ofString "strict"] := by rfl)
    (he : starEach [e, e2] X.env = (false, eval e X.env) :: starEach [e2] X.env := by rfl) (hpl : ((backTo pos (starEach [e, e2] X.env)).any (·.1) || (backToKw pos (keywordEach kws X.env)).any (·.1.isNone)) = false := by rfl) :
    PI X (.Tuple elts kk tpos) (.Call (.Name "zip" p) [e, e2] kws pos) (fun σ H R => ta σ H fun vs H1 => tk σ H1 fun ks H2 => ks = [.bl true] ∧ ∃ (p q : Bool) (a b : Addr) (xs ys : List V), vs = [.ref a, .ref b] ∧ SqX p X.K H2 a xs ∧ SqX q X.K H2 b ys ∧ R (ItzS X.K p q a b) H2) := by
  refine ⟨fun pins s σ H R I h => ?_⟩
  refine wpAny_Call_Name_kw (ld_blt I hg hm PyProof.Rows.boot_zip ?_)
  refine callWith_kwB (.inl ⟨"zip", rfl⟩) (thn (ha.run pos pins s σ H _ I h) fun us s1 ⟨vs, H1, I1, r1, q1⟩ => ?_) hall he hpl
  refine thn (hkw.run pos pins s1 σ H1 _ I1 q1) fun ws s2 ⟨zs, H2, I2, rz, q2⟩ => ?_
  obtain ⟨rfl, p', q', a, b, xs, ys, rfl, hqx, hqy, qr⟩ := q2
  rw [hks]
  cases r1 with
  | cons r rr =>
    cases rr with
    | cons r' rr =>
      cases rr
      cases r
      cases r'
      cases rz with
      | cons rb rr =>
        cases rr
        cases rb
        obtain ⟨its, rv, p1, lt1⟩ := hqx.open_ I2
        obtain ⟨its2, rv2, p2, lt2⟩ := hqy.open_ I2
        have fresh5 : ∀ c, c ∈ [s2.heap.objs.size + 4, s2.heap.objs.size + 2, s2.heap.objs.size + 3, s2.heap.objs.size, s2.heap.objs.size + 1] → FpOk X pins H2 c := fun c hcm => by
          have hle : s2.heap.objs.size ≤ c := by
            simp only [List.mem_cons, List.not_mem_nil, or_false] at hcm
            omega
          exact I2.fpOk hle (I2.hok.fresh hle)
        refine call_zipS p1 p2 fun h' hz hTI hTO h1 h2 hsz hk => iter_zipS hz ?_
        have I3 : Inv X pins σ H2 { s2 with heap := h' } := I2.kept (t' := s2.toks) hk
        exact ⟨s2.heap.objs.size + 4, _, _, _, H2, rfl, I3, turn_zipS (PySem.W.ktu_apart s2.heap.objs.size a b lt1 lt2), ⟨hz, hTI, ⟨_, _, hTO⟩, h1, h2⟩, fresh5, qr⟩
end DZ

/-! DZ3 -/
set_option maxHeartbeats 1000000
/-! sum(.., start=0) -/
namespace DZ
open PySem PySem.Spec PyProof.Rows L2
theorem args_sumS (a b : Value) : argsOk "sum" ⟨[a], [(Str.ofString "start", b)]⟩ := by unfold argsOk; kernel_rfl
section
variable {prog : Program} {w : World} {A : Around} {E : Value → Shared → Prop} {s : Shared}
theorem call_tree_kw {id : String} {b : Builtin} {args : List Value} {kw : List (Str × Value)} {Q : Value → Shared → Prop} (hk : builtinKind id = none) (hp : plainId id = true)
    (hb : entryFor table id = some b) (ha : argsOk id ⟨args, kw⟩)
    (hc : wpAny (model prog w) A.in1 (b ⟨args, kw⟩) (fun fin s' => match fin with
      | .done f => (match (Except.ok f : Result) with | .ok (.ret v) => Q v s' | .ok _ => False | .error e => E e s')
      | .again c' => c'.quiet = true ∧ codeAny (model prog w) A c' (fun r s' => match r with | .ok (.ret v) => Q v s' | .ok _ => False | .error e => E e s') s') E s) :
    wpAny (model prog w) A (call (.builtin id) args kw) Q E s := by
  refine wpAny_call (codeAny_call_builtin hp hb ?_)
  simp only [checkBuiltinCall, hk]
  cases hsig : Manifest.signature? id with
  | none => exact wpAny_pure hc
  | some sig =>
    have ha' : Bind.checkArgs id sig ⟨args, kw⟩ = pure () := by simpa only [argsOk, hsig] using ha
    show wpAny _ A.in1 (Bind.checkArgs id sig ⟨args, kw⟩) _ _ s
    rw [ha']; exact wpAny_pure hc
theorem sum_walkS {x : Value} {tz : Tok} {Q : Value → Shared → Prop}
    (h : wpAny (model prog w) A.in1 (pyIter x) (fun it s₂ => ∃ I fp wr n P St val, it = .ref I ∧ Walks prog w A.in1 I fp wr n P St ∧ St 0 s₂.heap ∧ (∀ b ∈ fp, b < s₂.heap.objs.size) ∧
      (∀ i v, P i v → ∃ t, v = .int (val i) t) ∧
      ∀ h' tk t', (∀ b o, b ∉ wr → s₂.heap.get? b = some o → h'.get? b = some o) → Q (.int (preSum val n) t') { s₂ with heap := h', toks := tk }) E s) :
    wpAny (model prog w) A (call (.builtin "sum") [x] [(Str.ofString "start", .int 0 tz)]) Q E s := by
  refine call_tree_kw F.kind_sum F.plain_sum F.entry_sum (args_sumS _ _) ?_
  unfold Builtin.«sum»
  simp only [List.length_cons, List.length_nil]
  rw [if_neg (by decide)]
  refine wpAny_bind (wpAny_of_eq (show Builtin.Builtins.bindParams "sum" ["start"] 0 ⟨[], [(Str.ofString "start", .int 0 tz)]⟩ = pure [some (.int 0 tz)] from by kernel_rfl) ?_)
  refine wpAny_bind (wpAny_mono h (fun it s₂ h₂ => ?_) fun _ _ e => e)
  obtain ⟨I, fp, wr, n, P, St, val, rfl, W, hst, hfp, hval, hQ⟩ := h₂
  refine wpAny_bind (wpAny_rule (wpAny_bind (wpAny_mkInt (wpAny_bind (wpAny_pure ?_)))))
  simp only [List.forIn_cons, List.forIn_nil]
  refine wpAny_bind (wpAny_bind (wpAny_bind (wpAny_isInstance (T := "int") (b := false) (typeIs_int _ _ _) PySem.sub_int_str ?_)))
  simp only [Bool.false_eq_true, if_false]
  refine wpAny_pure (wpAny_bind (wpAny_bind (wpAny_isInstance (T := "int") (b := false) (typeIs_int _ _ _) PySem.sub_int_bytes ?_)))
  simp only [Bool.false_eq_true, if_false]
  refine wpAny_pure (wpAny_bind (wpAny_bind (wpAny_isInstance (T := "int") (b := false) (typeIs_int _ _ _) PySem.sub_int_bytearray ?_)))
  simp only [Bool.false_eq_true, if_false]
  refine wpAny_pure (wpAny_pure (wpAny_bind (wpAny_newObj_type ?_)))
  have hSf : s₂.heap.objs.size ∉ fp := fun hm => Nat.lt_irrefl _ (hfp _ hm)
  refine wpAny_pure ⟨plainId_quiet F.plain_sum_loop _, codeAny_sum_loopG W val hval s₂.heap.objs.size hSf n 0 _ s₂.toks 0 0 (Or.inl rfl) rfl (Nat.zero_le _)
    (W.frame _ _ _ hst fun b _ o e => Heap.get?_push_of_some _ e) (Heap.get?_push_size _ rfl) fun h' tk t' hk => ?_⟩
  exact hQ h' tk t' fun b o hbw e => hk b o hbw (Nat.ne_of_lt (Heap.lt_size e)) (Heap.get?_push_of_some _ e)
theorem sum_startS {l : Addr} {its : List Value} {ns : List Int} {tz : Tok} {Q : Value → Shared → Prop} (hh : A.handled = none) (hl : s.heap.IsList l its.toArray) (hi : IntsAre its ns)
    (h : ∀ h' tk t', (∀ b o, s.heap.get? b = some o → h'.get? b = some o) → Q (.int ns.sum t') { s with heap := h', toks := tk }) : wpAny (model prog w) A (call (.builtin "sum") [.ref l] [(Str.ofString "start", .int 0 tz)]) Q E s := by
  obtain ⟨xs, e⟩ := hi.allInts.items
  have hn : numsOf (intItems xs).toList = ns := by rw [← e]; exact hi.numsOf
  rw [nums_intItems] at hn
  rw [e] at hl
  refine sum_walkS (iter_intList hl fun s₂ e st hfp hlI => ?_)
  subst e
  refine ⟨_, _, _, _, _, _, numAt xs, rfl, Walks.list (A := A.in1) hh _ l hlI (intItems xs), st, hfp, (fun _ _ => intItems_at), fun h' tk t' hk => ?_⟩
  have := h h' tk t' (old_kept hk)
  rw [← hn, ← List.take_of_length_le (l := List.map _ xs.toList) (i := xs.size) (by simp), ← preSum_eq] at this
  simpa [intItems] using this
end
theorem pe_sumS {X : Cx} {e : Expr} {ta tk : TA} {kws : List Keyword} {p pos : Pos} (hc : X.calm = true) (hg : Gl X "sum") (hm : X.mg "sum" = none) (ha : PA X [e] ta) (hkw : PK X kws tk)
    (hall : (backToKw pos (keywordEach kws X.env)).all (·.1.isSome) = true := by rfl) (hks : (backToKw pos (keywordEach kws X.env)).filterMap (·.1) = [Str.ofString "start"] := by rfl)
    (he : starEach [e] X.env = (false, eval e X.env) :: starEach [] X.env := by rfl) (hpl : ((backTo pos (starEach [e] X.env)).any (·.1) || (backToKw pos (keywordEach kws X.env)).any (·.1.isNone)) = false := by rfl) :
    PE X (.Call (.Name "sum" p) [e] kws pos) (fun σ H Q => ta σ H fun vs H1 => tk σ H1 fun ks H2 => ks = [.int 0] ∧ ∃ (a : Addr) (ns : List Int), vs = [.ref a] ∧ SqL X.K H2 a (ns.map V.int) ∧ Q (.int ns.sum) H2) := by
  refine ⟨fun pins s σ H R I h => ?_⟩
  refine wpAny_Call_Name_kw (ld_blt I hg hm (by decide +kernel : bootBuiltins "sum" = some (.builtin "sum")) ?_)
  refine callWith_kwB (.inr ⟨"sum", rfl⟩) (thn (ha.run pos pins s σ H _ I h) fun us s1 ⟨vs, H1, I1, r1, q1⟩ => ?_) hall he hpl
  refine thn (hkw.run pos pins s1 σ H1 _ I1 q1) fun ws s2 ⟨zs, H2, I2, rz, q2⟩ => ?_
  obtain ⟨rfl, a, ns, rfl, hs, qr⟩ := q2
  rw [hks]
  rw [Vals.ref1 r1]
  cases rz with
  | cons rb rr =>
    cases rr
    obtain ⟨t, rfl⟩ := rb
    obtain ⟨its, rv, hl, _⟩ := I2.list hs
    exact sum_startS (I2.ok.hd hc) hl.isList rv.ints fun h' tk t' hk => ⟨.int _, H2, I2.kept hk, ⟨_, rfl⟩, qr⟩
end DZ

/-! DL14 -/
namespace DL
open PySem PySem.Spec PyProof.Rows L2 DZ

/-! ### zip(.., strict=True) of two of one length -/
def itemsD : D → Option (Bool × List D)
  | .list ds => some (true, ds)
  | .tuple ds => some (false, ds)
  | _ => none
def srcZS (f g : EF) : En → O (List D) := fun ρ => (f ρ).bind fun x ρ1 => (g ρ1).bind fun y ρ2 => match x, y with
  | .st d, .st e => (match itemsD d, itemsD e with
    | some (_, ds), some (_, es) => if ds.length = es.length then .ok (zipD ds es) ρ2 else .bad
    | _, _ => .bad)
  | _, _ => .bad
theorem Rep.seqX {K : Fg} {Hs : Hp} {v : V} {d : D} {b : Bool} {ds : List D} (r : Rep K Hs v d) (e : itemsD d = some (b, ds)) : ∃ a xs, v = .ref a ∧ RepA K Hs xs ds ∧ ∀ H, Same Hs H → SqX b K H a xs := by
  cases d <;> first | (cases e; done) | skip
  · cases e
    obtain ⟨a, xs, rfl, s, q⟩ := Shal.lst (H := Hs) (.inl r) (.refl _)
    exact ⟨a, xs, rfl, q, fun H sm => .inl (.inl (sm _ _ s))⟩
  · cases e
    obtain ⟨a, xs, rfl, s, q⟩ := Shal.tup (H := Hs) (.inl r) (.refl _)
    exact ⟨a, xs, rfl, q, fun H sm => DL.Same.seqT sm s⟩
section
variable {X : Cx} {B : Bs} {W : WX} {e e2 : Expr} {fa fb : EF} {fr : AF} {p pos tpos : Pos} {elts : List Expr} {kk : Nat}
theorem pid_zipS {z : Expr} (h : PI X (.Tuple elts kk tpos) z (fun σ H R => tCons (tD X.K X.mg B W fa) (tCons (tD X.K X.mg B W fb) tNil) σ H fun vs H1 => tCons (tC (.bl true)) tNil σ H1 fun ks H2 => ks = [.bl true] ∧
    ∃ (p q : Bool) (a b : Addr) (xs ys : List V), vs = [.ref a, .ref b] ∧ SqX p X.K H2 a xs ∧ SqX q X.K H2 b ys ∧ R (ItzS X.K p q a b) H2)) : PID X B W (.Tuple elts kk tpos) z (srcZS fa fb) := PI.imp h fun σ H R' ⟨Hs, ρ, sl, q⟩ => by
  refine ⟨Hs, ρ, sl, OP.imp (OP.bind q) fun x ρ1 Hs1 H1 _ sl1 e1 q1 v hv => ?_⟩
  refine ⟨Hs1, ρ1, sl1, OP.imp (OP.bind q1) fun y ρ2 Hs2 H2 _ sl2 e2 q2 u hu => ?_⟩
  cases x <;> first | exact q2.elim | skip
  rename_i d ex
  clear ex
  cases y <;> first | exact q2.elim | skip
  rename_i d2 ey
  clear ey
  dsimp only at q2
  cases ed : itemsD d with
  | none => rw [ed] at q2; exact q2.elim
  | some bd =>
    cases ed2 : itemsD d2 with
    | none => rw [ed, ed2] at q2; exact q2.elim
    | some be =>
      obtain ⟨b1, ds⟩ := bd
      obtain ⟨b2, es⟩ := be
      rw [ed, ed2] at q2
      dsimp only at q2
      by_cases c : ds.length = es.length
      · rw [if_pos c] at q2
        obtain ⟨a, xs, rfl, r1, g1⟩ := Rep.seqX (Rep.mono e2 hv) ed
        obtain ⟨b, ys, rfl, r2, g2⟩ := Rep.seqX hu ed2
        have l1 := r1.length
        have l2 := r2.length
        refine ⟨rfl, b1, b2, a, b, xs, ys, rfl, g1 _ sl2.sub, g2 _ sl2.sub, ?_⟩
        refine q2 Hs2 H2 sl2 (.refl _) _ (walk_zipG (fun H' sm => ?_) r1 r2)
        refine ⟨fun i hi => ?_, ⟨xs, ys, g1 _ sm, g2 _ sm, by omega, by omega⟩, fun i x H'' hi y => ?_⟩
        · have h1 : i < xs.length := by omega
          have h2 : i < ys.length := by omega
          exact ⟨xs, ys, xs[i], ys[i], g1 _ sm, g2 _ sm, by simp [h1], by simp [h2]⟩
        · obtain ⟨T, x, z, h1, h2, h3, h4, h5⟩ := y
          exact ⟨T, x, z, h1, h2, h3, h4 xs (g1 _ sm), h5 ys (g2 _ sm)⟩
      · rw [if_neg c] at q2; exact q2.elim
/-! ### sum(xs, start=0) -/
theorem pd_sumS (hc : X.calm = true) (hg : Gl X "sum") (hm : X.mg "sum" = none) (ha : PAD X B W [e] fr) {kws : List Keyword} (hkw : PK X kws (tCons (tC (.int 0)) tNil))
    (hall : (backToKw pos (keywordEach kws X.env)).all (·.1.isSome) = true := by rfl) (hks : (backToKw pos (keywordEach kws X.env)).filterMap (·.1) = [Str.ofString "start"] := by rfl)
    (he : starEach [e] X.env = (false, eval e X.env) :: starEach [] X.env := by rfl) (hpl : ((backTo pos (starEach [e] X.env)).any (·.1) || (backToKw pos (keywordEach kws X.env)).any (·.1.isNone)) = false := by rfl) :
    PD X B W (.Call (.Name "sum" p) [e] kws pos) (bltF (one sumD) fr) := PE.imp (pe_sumS hc hg hm ha hkw hall hks he hpl) fun σ H Q h => by
  obtain ⟨Hs, ρ, sl, q⟩ := blt_read h
  refine ⟨Hs, ρ, sl, OP.imp q fun xs ρ1 Hs1 H1 _ sl1 e1 q1 vs hv => ?_⟩
  obtain ⟨v, Hs2, d, z, rfl, sm, sh, eg, k⟩ := (q1 vs hv).one
  cases d <;> first | (cases eg; done) | skip
  rename_i ds
  unfold sumD at eg
  dsimp only at eg
  cases en : intsOf ds with
  | none => rw [en] at eg; cases eg
  | some ns =>
    rw [en] at eg
    cases eg
    obtain ⟨p, ws, rfl, e, ra⟩ := sh.lst sm
    rw [intsOf_map en] at ra
    rw [ra.ints] at e
    exact ⟨rfl, p, ns, rfl, .inl (.inl e), k _ Hs2 _ (.refl sm) (.int _)⟩
/-! ### xs[::-1] -/
def revF (fa : EF) : EF := fun ρ => (fa ρ).bind fun x ρ1 => opt ((x.get ρ1).bind fun d => match d with
  | .list ds => some (Vl.st (.list ds.reverse))
  | _ => none) ρ1
theorem pd_rev {k : Nat} {p1 p2 p3 : Pos} (ha : PD X B W e fa) : PD X B W (.Subscript e (.Slice none none (some (.UnaryOp .USub (.Constant (.int 1) k p1) p2)) p3) pos) (revF fa) := PE.imp (pe_revL ha) fun σ H Q ⟨Hs, ρ, sl, q⟩ => by
  refine ⟨Hs, ρ, sl, OP.imp (OP.bind q) fun x ρ1 Hs1 H1 _ sl1 e1 q1 v hv => ?_⟩
  cases ex : x.get ρ1 with
  | none => rw [ex] at q1; exact q1.elim
  | some d =>
    rw [ex, Option.bind_some] at q1
    have s := sl1.look hv ex
    cases d <;> first | exact q1.elim | skip
    obtain ⟨p, vs, rfl, h, r⟩ := s.lst sl1.sub
    refine ⟨p, vs, rfl, .inl (.inl h), fun p' np => ?_⟩
    have g : Grow Hs1 H1 _ _ := Grow.laid (o := .lst vs.reverse) sl1.sub np
    exact q1 _ _ (sl1.grow g) g.s _ (.lst upd_same (r.rev.mono g.s))
end
end DL

/-! DL15 -/
namespace DL
open PySem PySem.Spec PyProof.Rows L2 DZ

/-! ### i in range(lo, hi) -/
theorem op_notin_rng {X : Cx} : OpR X (compareOp .NotIn) (fun x y H Q => ∃ i a lo hi, x = V.int i ∧ y = V.ref a ∧ H a = some (.rng lo hi) ∧ Q (.bl (!decide (lo ≤ i ∧ i < hi))) H) := by
  intro pins s σ H x y v u Q I rx ry h
  obtain ⟨i, a, lo, hi, rfl, rfl, ha, q⟩ := h
  obtain ⟨k, rfl⟩ := rx
  obtain rfl : u = Value.ref a := ry
  obtain ⟨t1, t2, t3, ho⟩ := I.hok a _ ha
  show wpAny _ _ (do return Value.bool (!(← contains (Value.ref a) (Value.int i k)))) _ _ s
  refine wpAny_bind (wpAny_contains_slot (T := "range") ⟨_, ho, rfl⟩ F.slot_range_contains (call_meets F.slot_range_contains ⟨_, ho, rfl⟩ F.entry_range_contains (F.args_range_contains_2 _ _) (q_contains a lo hi i t1 t2 t3 k) ⟨ho, wpAny_truthy_bool (wpAny_pure ⟨.bl _, H, I, rfl, ?_⟩)⟩))
  rw [place1]
  exact q
def inRF (neg : Bool) (fa fl fh : EF) : EF := fun ρ => (fa ρ).bind fun x ρ1 => (fl ρ1).bind fun l ρ2 => (fh ρ2).bind fun h ρ3 => match x, l, h with
  | .st (.int i), .st (.int lo), .st (.int hi) => .ok (.st (.bool (neg != decide (lo ≤ i ∧ i < hi)))) ρ3
  | _, _, _ => .bad
section
variable {X : Cx} {B : Bs} {W : WX} {e e1 e2 : Expr} {fa fl fh : EF} {p pos pos2 : Pos}
theorem inRF_read {neg : Bool} {σ : L2.St} {H : Hp} {Q : VK} (h : tD X.K X.mg B W (inRF neg fa fl fh) σ H Q) :
    tOp (fun x y H Q => ∃ i a lo hi, x = V.int i ∧ y = V.ref a ∧ H a = some (.rng lo hi) ∧ Q (.bl (neg != decide (lo ≤ i ∧ i < hi))) H) (tD X.K X.mg B W fa)
      (tCB (fun vs H Q => ∃ i j, vs = [V.int i, V.int j] ∧ ∀ p, H p = none → Q (.ref p) (upd H p (.rng i j))) (tCons (tD X.K X.mg B W fl) (tCons (tD X.K X.mg B W fh) tNil))) σ H Q := by
  obtain ⟨Hs, ρ, sl, q⟩ := h
  refine ⟨Hs, ρ, sl, OP.imp (OP.bind q) fun x ρ1 Hs1 H1 _ sl1 e1 q1 v hv => ?_⟩
  refine ⟨Hs1, ρ1, sl1, OP.imp (OP.bind q1) fun l ρ2 Hs2 H2 _ sl2 e2 q2 u hu => ?_⟩
  refine ⟨Hs2, ρ2, sl2, OP.imp (OP.bind q2) fun h ρ3 Hs3 H3 _ sl3 e3 q3 z hz => ?_⟩
  cases x <;> first | exact q3.elim | skip
  rename_i d1 y1
  cases l <;> first | (cases d1 <;> exact q3.elim) | skip
  rename_i d2 y2
  cases h <;> first | (cases d1 <;> first | exact q3.elim | (cases d2 <;> exact q3.elim)) | skip
  rename_i d3 y3
  cases d1 <;> first | exact q3.elim | skip
  cases d2 <;> first | exact q3.elim | skip
  cases d3 <;> first | exact q3.elim | skip
  cases hv
  cases hu
  cases hz
  refine ⟨_, _, rfl, fun p np => ⟨_, p, _, _, rfl, rfl, upd_same, ?_⟩⟩
  exact q3 Hs3 _ (sl3.grow (Grow.loose sl3.sub np)) (.refl _) _ (.bl _)
theorem pd_inR (hg : Gl X "range") (hm : X.mg "range" = none) (ha : PD X B W e fa) (ha2 : PA X [e1, e2] (tCons (tD X.K X.mg B W fl) (tCons (tD X.K X.mg B W fh) tNil))) (hmk : behindInMarks .In (.Call (.Name "range" p) [e1, e2] [] pos) = false)
    (he : starEach (e1 :: [e2]) X.env = (false, eval e1 X.env) :: starEach [e2] X.env := by rfl) (hpl : (backTo pos (starEach [e2] X.env)).any (·.1) = false := by rfl) : PD X B W (.Compare e [.In] [.Call (.Name "range" p) [e1, e2] [] pos] pos2) (inRF false fa fl fh) :=
  PE.imp (pe_cmpR op_in_rng ha (pe_callTy cr_range2 hg hm (by decide +kernel) ha2 (by decide) (by decide) he hpl) hmk) fun _ _ _ h => by
    have h := inRF_read h
    simpa using h
theorem pd_notinR (hg : Gl X "range") (hm : X.mg "range" = none) (ha : PD X B W e fa) (ha2 : PA X [e1, e2] (tCons (tD X.K X.mg B W fl) (tCons (tD X.K X.mg B W fh) tNil))) (hmk : behindInMarks .NotIn (.Call (.Name "range" p) [e1, e2] [] pos) = false)
    (he : starEach (e1 :: [e2]) X.env = (false, eval e1 X.env) :: starEach [e2] X.env := by rfl) (hpl : (backTo pos (starEach [e2] X.env)).any (·.1) = false := by rfl) : PD X B W (.Compare e [.NotIn] [.Call (.Name "range" p) [e1, e2] [] pos] pos2) (inRF true fa fl fh) :=
  PE.imp (pe_cmpR op_notin_rng ha (pe_callTy cr_range2 hg hm (by decide +kernel) ha2 (by decide) (by decide) he hpl) hmk) fun _ _ _ h => by
    have h := inRF_read h
    simpa using h
theorem pb_inR (hg : Gl X "range") (hm : X.mg "range" = none) (ha : PD X B W e fa) (ha2 : PA X [e1, e2] (tCons (tD X.K X.mg B W fl) (tCons (tD X.K X.mg B W fh) tNil))) (hmk : behindInMarks .In (.Call (.Name "range" p) [e1, e2] [] pos) = false)
    (he : starEach (e1 :: [e2]) X.env = (false, eval e1 X.env) :: starEach [e2] X.env := by rfl) (hpl : (backTo pos (starEach [e2] X.env)).any (·.1) = false := by rfl) : PB X B W (.Compare e [.In] [.Call (.Name "range" p) [e1, e2] [] pos] pos2) (bF (inRF false fa fl fh)) :=
  PT.imp (pt_cmpR op_in_rng ha (pe_callTy cr_range2 hg hm (by decide +kernel) ha2 (by decide) (by decide) he hpl) hmk) fun _ _ _ h => by
    have h := inRF_read (bF_read h)
    simp only [Bool.false_bne, Bool.true_bne] at h
    exact h
theorem pb_notinR (hg : Gl X "range") (hm : X.mg "range" = none) (ha : PD X B W e fa) (ha2 : PA X [e1, e2] (tCons (tD X.K X.mg B W fl) (tCons (tD X.K X.mg B W fh) tNil))) (hmk : behindInMarks .NotIn (.Call (.Name "range" p) [e1, e2] [] pos) = false)
    (he : starEach (e1 :: [e2]) X.env = (false, eval e1 X.env) :: starEach [e2] X.env := by rfl) (hpl : (backTo pos (starEach [e2] X.env)).any (·.1) = false := by rfl) : PB X B W (.Compare e [.NotIn] [.Call (.Name "range" p) [e1, e2] [] pos] pos2) (bF (inRF true fa fl fh)) :=
  PT.imp (pt_cmpR op_notin_rng ha (pe_callTy cr_range2 hg hm (by decide +kernel) ha2 (by decide) (by decide) he hpl) hmk) fun _ _ _ h => by
    have h := inRF_read (bF_read h)
    simp only [Bool.false_bne, Bool.true_bne] at h
    exact h
end
end DL

/-! DE -/
set_option maxHeartbeats 1000000
/-! enumerate over lists and tuples, from any start -/
namespace DZ
open PySem PySem.Spec PyProof.Rows L2
theorem drawsK {prog : Program} {w : World} {A : Around} (b : Bool) (hh : A.handled = none) (it l : Addr) (hne : l ≠ it) (items : Array Value) :
    Draws prog w A it [it, l] items.size (fun i v => items[i]? = some v) (fun i h => ItK b h it l i ∧ SqK b h l items) := by
  cases b
  · exact Draws.tuple hh it l hne items
  · exact Draws.list hh it l hne items
/-- the list or tuple at a as it stands at each turn, with numbers from k on -/
def IteS (K : PySem.W.Frag) (p : Bool) (k : Int) (a : Addr) : It :=
  ⟨fun i H => ∃ (xs : List V) (x : V), SqX p K H a xs ∧ xs[i]? = some x, fun i H v H' => ∃ T x, v = .ref T ∧ H T = none ∧ H' = upd H T (.tup [.int (k + (i : Nat)), x]) ∧ ∀ xs, SqX p K H a xs → xs[i]? = some x, fun i H => ∃ xs : List V, SqX p K H a xs ∧ xs.length = i⟩
theorem turn_enumS {P : Program} {w : World} {K : PySem.W.Frag} {elts : List Expr} {kk : Nat} {tpos : Pos} {p : Bool} {k : Int} (a e it : Addr) (hai : a ≠ it) (hae : a ≠ e) :
    Turn P w K (.Tuple elts kk tpos) (IteS K p k a) [e, it] e (fun i h => (∃ old, IsEnum h e it (k + ((i : Nat) : Int)) old) ∧ ItK p h it a i ∧ e ≠ it) where
  mem := List.mem_cons_self ..
  obj := fun i h st b hb => by
    obtain ⟨⟨old, he⟩, hi, _⟩ := st
    simp only [List.mem_cons, List.not_mem_nil, or_false] at hb
    rcases hb with rfl | rfl
    · exact ⟨_, he, fun v q => nomatch q⟩
    · cases p
      · obtain ⟨o, e1, _, d⟩ := (show h.IsTupleIter _ a i from hi); exact ⟨o, e1, fun v z => by rw [d] at z; cases z⟩
      · obtain ⟨o, e1, _, d⟩ := (show h.IsListIter _ a i from hi); exact ⟨o, e1, fun v z => by rw [d] at z; cases z⟩
  keep := fun i h h' st kp => let ⟨⟨old, he⟩, hi, hne⟩ := st; ⟨⟨old, kp e (by simp) _ he⟩, hi.at fun o q => kp it (by simp) o q, hne⟩
  item := by
    intro X hP hw hK hc i pins s σ H E I hf st hg
    subst hP hw hK
    obtain ⟨⟨old, he⟩, hit, hne⟩ := st
    obtain ⟨xs, x, hq, hx⟩ := hg
    obtain ⟨its, rv, p1, hal⟩ := hq.open_ I
    obtain ⟨u, hu, ru⟩ := rv.get hx
    have hel : e < s.heap.objs.size := Heap.lt_size he
    have hil : it < s.heap.objs.size := by obtain ⟨_, q⟩ := hit.there; exact Heap.lt_size q
    have hlt : i < its.toArray.size := by
      have := (List.getElem?_eq_some_iff.mp hu).1
      simpa using this
    refine wpAny_pyNext_enum_itemC (drawsK p (by show X.A.in1.handled = none; exact I.ok.hd hc) it a hai its.toArray) he ⟨hit, p1⟩ hlt hne (by simp [hne, Ne.symm hae]) fun x' h' tk hx' ho hst' hT hsz hkk => ?_
    have hxu : x' = u := by
      have : its.toArray[i]? = some u := by simpa using hu
      rw [this] at hx'
      exact (Option.some.inj hx').symm
    subst hxu
    refine ⟨_, rfl, wpAny_letOwnedTupleGo_enum (s := { s with heap := h', toks := tk + 1 }) ho fun h'' he' sb => ?_⟩
    have hT2 : h''.get? s.heap.objs.size = some { cls := .type "tuple", data := .seq #[.int (k + (i : Nat)) tk, x'] } := (sb.2 _ (Nat.ne_of_gt hel)).trans hT
    have new : ObjOk X.prog X.w (upd H s.heap.objs.size (.tup [.int (k + (i : Nat)), x])) h'' s.heap.objs.size (.tup [.int (k + (i : Nat)), x]) :=
      ⟨by show 2 ≤ sizeLine; decide, [.int (k + (i : Nat)) tk, x'], .cons ⟨_, rfl⟩ (.cons ru .nil), ⟨_, hT2, rfl, _, rfl⟩⟩
    have out : ∀ {c : Addr}, c ∉ [e, it] → c ≠ e ∧ c ≠ it := fun hb => by
      simp only [List.mem_cons, List.not_mem_nil, or_false, not_or] at hb
      exact hb
    have I1 : Inv X pins σ (upd H s.heap.objs.size (.tup [.int (k + (i : Nat)), x])) { s with heap := h'', toks := tk + 1 } :=
      I.turnedNew (ch := [e, it]) (fun b ob hb q => (sb.2 b (out hb).1).trans (hkk b ob (out hb).1 (out hb).2 q)) hf (Nat.le_refl _) new
    refine ⟨.ref s.heap.objs.size, _, I1, rfl, ⟨_, x, rfl, I.hok.fresh (Nat.le_refl _), rfl, fun ys hy => by rw [hy.inj I hq]; exact hx⟩, ⟨⟨x', ?_⟩, hst'.1.at fun o q => (sb.2 it (Ne.symm hne)).trans q, hne⟩, fun b hb => ?_⟩
    · have e1 : k + ((i + 1 : Nat) : Int) = k + (i : Int) + 1 := by omega
      rw [e1]; exact he'
    · have hb' : b < s.heap.objs.size := by
        simp only [List.mem_cons, List.not_mem_nil, or_false] at hb
        rcases hb with rfl | rfl
        · exact hel
        · exact hil
      rw [upd_ne (Nat.ne_of_lt hb')]
      exact (hf b hb).1
  done := by
    intro X hP hw hK hc i pins s σ H E I hf st hg
    subst hP hw hK
    obtain ⟨⟨old, he⟩, hit, hne⟩ := st
    obtain ⟨xs, hq, hx⟩ := hg
    obtain ⟨its, rv, p1, hal⟩ := hq.open_ I
    obtain ⟨f0, f1, f2, f3, f4, f5⟩ := hf it (by simp)
    have hl := rv.length
    have hi : i = its.toArray.size := by simp; omega
    subst hi
    exact wpAny_pyNext_enum_endD (drawsK p (by show X.A.in1.handled = none; exact I.ok.hd hc) it a hai its.toArray) he ⟨hit, p1⟩ fun h' eb => ⟨rfl, I.turned (t' := s.toks) (fun b o hb q => eb b o hb q) f0 f1 f3 f4 f5⟩
  self := fun A i s Q E st h => let ⟨⟨_, he⟩, _⟩ := st; wpAny_pyIter_enum he h
theorem beginsK (b : Bool) (l : Addr) (items : Array Value) : Begins (.ref l) (itO b l) fun h => SqK b h l items := by
  cases b
  · exact begins_tuple l items
  · exact begins_list l items
theorem call_enumS {prog : Program} {w : World} {A : Around} {E : Value → Shared → Prop} {s : Shared} {b : Bool} {l : Addr} {xs : Array Value} {k : Int} {t : Tok} {Q : Value → Shared → Prop} (hl : SqK b s.heap l xs) (h0 : -(2 ^ 63) ≤ k) (h1 : k < 2 ^ 63)
    (h : ∀ h', IsEnum h' (s.heap.objs.size + 1) s.heap.objs.size k .none → ItK b h' s.heap.objs.size l 0 → (∀ b o, s.heap.get? b = some o → h'.get? b = some o) → Q (.ref (s.heap.objs.size + 1)) { s with heap := h' }) :
    wpAny (model prog w) A (call (.type "enumerate") [.ref l] [(Str.ofString "start", .int k t)]) Q E s :=
  enum_begins_start (beginsK b l xs) hl h0 h1 fun h' he hi _ hk => h h' he (itO_at hi) hk
theorem pi_enumS {X : Cx} {e : Expr} {ta tk : TA} {kws : List Keyword} {p pos tpos : Pos} {elts : List Expr} {kk : Nat} (hg : Gl X "enumerate") (hm : X.mg "enumerate" = none) (ha : PA X [e] ta) (hkw : PK X kws tk)
    (hall : (backToKw pos (keywordEach kws X.env)).all (·.1.isSome) = true := by rfl) (hks : (backToKw pos (keywordEach kws X.env)).filterMap (·.1) = [Str.ofString "start"] := by rfl)
    (he : starEach [e] X.env = (false, eval e X.env) :: starEach [] X.env := by rfl) (hpl : ((backTo pos (starEach [e] X.env)).any (·.1) || (backToKw pos (keywordEach kws X.env)).any (·.1.isNone)) = false := by rfl) :
    PI X (.Tuple elts kk tpos) (.Call (.Name "enumerate" p) [e] kws pos) (fun σ H R => ta σ H fun vs H1 => tk σ H1 fun ks H2 => ∃ (k : Int) (q : Bool) (a : Addr) (xs : List V), ks = [.int k] ∧ -(2 ^ 63) ≤ k ∧ k < 2 ^ 63 ∧ vs = [.ref a] ∧ SqX q X.K H2 a xs ∧ R (IteS X.K q k a) H2) := by
  refine ⟨fun pins s σ H R I h => ?_⟩
  refine wpAny_Call_Name_kw (ld_blt I hg hm boot_enumerate ?_)
  refine callWith_kwB (.inl ⟨"enumerate", rfl⟩) (thn (ha.run pos pins s σ H _ I h) fun us s1 ⟨vs, H1, I1, r1, q1⟩ => ?_) hall he hpl
  refine thn (hkw.run pos pins s1 σ H1 _ I1 q1) fun ws s2 ⟨zs, H2, I2, rz, q2⟩ => ?_
  obtain ⟨k, q', a, xs, rfl, k0, k1, rfl, hqx, qr⟩ := q2
  rw [hks]
  cases r1 with
  | cons r rr =>
    cases rr
    cases r
    cases rz with
    | cons rb rr =>
      cases rr
      obtain ⟨t, rfl⟩ := rb
      obtain ⟨its, rv, p1, lt1⟩ := hqx.open_ I2
      have fresh2 : ∀ c, c ∈ [s2.heap.objs.size + 1, s2.heap.objs.size] → FpOk X pins H2 c := fun c hcm => by
        have hle : s2.heap.objs.size ≤ c := by
          simp only [List.mem_cons, List.not_mem_nil, or_false] at hcm
          omega
        exact I2.fpOk hle (I2.hok.fresh hle)
      refine call_enumS p1 k0 k1 fun h' he hi hk => wpAny_pyIter_enum he ?_
      have I3 : Inv X pins σ H2 { s2 with heap := h' } := I2.kept (t' := s2.toks) hk
      refine ⟨s2.heap.objs.size + 1, _, _, _, H2, rfl, I3, turn_enumS a (s2.heap.objs.size + 1) s2.heap.objs.size (Nat.ne_of_lt lt1) (Nat.ne_of_lt (Nat.lt_succ_of_lt lt1)), ⟨⟨.none, ?_⟩, hi, Nat.succ_ne_self _⟩, fresh2, qr⟩
      have e0 : k + ((0 : Nat) : Int) = k := by omega
      rw [e0]
      exact he
theorem meets_enum0 (b : Bool) (l : Addr) (xs : Array Value) :
    Meets (Builtin.«enumerate.__new__» ⟨[.type "enumerate", .ref l], []⟩) (fun _ R s => SqK b s.heap l xs ∧
      R (.ok (.ret (.ref (s.heap.push (itO b l)).objs.size))) { s with heap := (s.heap.push (itO b l)).push { cls := .type "enumerate", data := .fields #[.none, .bool false, .ref s.heap.objs.size, rawInt 0, .none, .none] } }) :=
  .of_wp fun prog w A R s h => by
    obtain ⟨hp, g, d, tk, os⟩ := s; obtain ⟨hl, h⟩ := h
    have hsub := sub_enumerate
    have q1 : ∀ {A' : Around} {E : Value → Shared → Prop} {Q : Value → Shared → Prop}, Q (.ref hp.objs.size) ⟨hp.push (itO b l), g, d, tk, os⟩ → wpAny (model prog w) A' (pyIter (.ref l)) Q E ⟨hp, g, d, tk, os⟩ :=
      fun q => SqK.iter (s := ⟨hp, g, d, tk, os⟩) hl q
    wp_walk using q1
    refine wpAny_stack_any fun st => wpAny_pure ?_
    split
    · rename_i c _ _ _ _ _
      cases (c == Value.type "enumerate")
      · wp_walk using q1
        exact ⟨_, rfl, h⟩
      · wp_walk using q1
        exact ⟨_, rfl, h⟩
    · wp_walk using q1
      exact ⟨_, rfl, h⟩
theorem call_enum0 {prog : Program} {w : World} {A : Around} {E : Value → Shared → Prop} {s : Shared} {b : Bool} {l : Addr} {xs : Array Value} {Q : Value → Shared → Prop} (hl : SqK b s.heap l xs)
    (h : ∀ h', IsEnum h' (s.heap.objs.size + 1) s.heap.objs.size 0 .none → ItK b h' s.heap.objs.size l 0 → (∀ b o, s.heap.get? b = some o → h'.get? b = some o) → Q (.ref (s.heap.objs.size + 1)) { s with heap := h' }) :
    wpAny (model prog w) A (call (.type "enumerate") [.ref l]) Q E s := by
  refine callType_new F.called_enumerate (by decide) (F.typeCall_enumerate_1 _) (F.newCall_enumerate_1 _) (fun obj => F.args_object_init_2 obj _) F.entry_enumerate_new (meets_enum0 b l xs) ⟨hl, ?_⟩
  have hz : (s.heap.push (itO b l)).objs.size = s.heap.objs.size + 1 := Heap.size_push ..
  have fr : (itO b l).isFreed = false := by cases b <;> rfl
  show _ ∧ _
  rw [hz]
  have he : IsEnum ((s.heap.push (itO b l)).push { cls := .type "enumerate", data := .fields #[.none, .bool false, .ref s.heap.objs.size, rawInt 0, .none, .none] }) (s.heap.objs.size + 1) s.heap.objs.size 0 .none := by
    have := Heap.get?_push_size (s.heap.push (itO b l)) (o := { cls := .type "enumerate", data := .fields #[.none, .bool false, .ref s.heap.objs.size, rawInt 0, .none, .none] }) rfl
    rw [hz] at this; exact this
  exact ⟨⟨_, he, rfl⟩, h _ he (itO_at (Heap.get?_push_of_some _ (Heap.get?_push_size _ fr))) fun b o x => Heap.get?_push_of_some _ (Heap.get?_push_of_some _ x)⟩
theorem pi_enum0 {X : Cx} {e : Expr} {ta : TA} {p pos tpos : Pos} {elts : List Expr} {kk : Nat} (hg : Gl X "enumerate") (hm : X.mg "enumerate" = none) (ha : PA X [e] ta) (hs : starEach [e] X.env = [(false, eval e X.env)] := by rfl) :
    PI X (.Tuple elts kk tpos) (.Call (.Name "enumerate" p) [e] [] pos) (fun σ H R => ta σ H fun vs H1 => ∃ (q : Bool) (a : Addr) (xs : List V), vs = [.ref a] ∧ SqX q X.K H1 a xs ∧ R (IteS X.K q 0 a) H1) := by
  refine ⟨fun pins s σ H R I h => ?_⟩
  refine Call_ (ld_blt I hg hm boot_enumerate (PyProof.Rows.callWith_type1 (thn (ha.run pos pins s σ H _ I h) fun us s2 ⟨vs, H2, I2, r1, q1⟩ => ?_) hs rfl))
  obtain ⟨q', a, xs, rfl, hqx, qr⟩ := q1
  cases r1 with
  | cons r rr =>
    cases rr
    cases r
    obtain ⟨its, rv, p1, lt1⟩ := hqx.open_ I2
    have fresh2 : ∀ c, c ∈ [s2.heap.objs.size + 1, s2.heap.objs.size] → FpOk X pins H2 c := fun c hcm => by
      have hle : s2.heap.objs.size ≤ c := by
        simp only [List.mem_cons, List.not_mem_nil, or_false] at hcm
        omega
      exact I2.fpOk hle (I2.hok.fresh hle)
    refine call_enum0 p1 fun h' he hi hk => wpAny_pyIter_enum he ?_
    have I3 : Inv X pins σ H2 { s2 with heap := h' } := I2.kept (t' := s2.toks) hk
    exact ⟨s2.heap.objs.size + 1, _, _, _, H2, rfl, I3, turn_enumS a (s2.heap.objs.size + 1) s2.heap.objs.size (Nat.ne_of_lt lt1) (Nat.ne_of_lt (Nat.lt_succ_of_lt lt1)), ⟨⟨.none, he⟩, hi, Nat.succ_ne_self _⟩, fresh2, qr⟩
end DZ

/-! DL16 -/
namespace DL
open PySem PySem.Spec PyProof.Rows L2 DZ

/-! ### enumerate -/
def enumD (k : Int) (ds : List D) : List D := (List.range ds.length).map fun i => .tuple [.int (k + (i : Nat)), ds.getD i .none]
theorem enum_at {k : Int} {ds : List D} {i : Nat} {d : D} (h : (enumD k ds)[i]? = some d) : i < ds.length ∧ ∃ e, ds[i]? = some e ∧ d = .tuple [.int (k + (i : Nat)), e] := by
  unfold enumD at h
  rw [List.getElem?_map] at h
  cases q : (List.range ds.length)[i]? with
  | none => rw [q] at h; cases h
  | some j =>
    rw [q] at h
    obtain ⟨h1, h2⟩ := List.getElem?_eq_some_iff.mp q
    rw [List.getElem_range] at h2
    rw [List.length_range] at h1
    subst h2
    cases h
    refine ⟨h1, ds[i], List.getElem?_eq_getElem h1, ?_⟩
    dsimp only
    rw [List.getD_eq_getElem?_getD, List.getElem?_eq_getElem h1]
    rfl
theorem enum_len (k : Int) (ds : List D) : (enumD k ds).length = ds.length := by
  unfold enumD
  rw [List.length_map, List.length_range]
theorem walk_enumS {K : Fg} {Hs : Hp} {q : Bool} {k : Int} {a : Addr} {xs : List V} {ds : List D} (r : RepA K Hs xs ds) (g : ∀ H, Same Hs H → SqX q K H a xs) : WalkD K (IteS K q k a) Hs (enumD k ds) := by
  have l := r.length
  refine ⟨fun i H hi s => ?_, fun H s => ⟨xs, g H s, by rw [enum_len]; exact l⟩, fun i H x H' d hd s y Hs1 s1 s2 => ?_⟩
  · rw [enum_len] at hi
    exact ⟨xs, xs[i], g H s, by simp [show i < xs.length by omega]⟩
  · obtain ⟨hi, e, he, rfl⟩ := enum_at hd
    obtain ⟨v, hv, rv⟩ := r.get he
    obtain ⟨T, z, rfl, nT, rfl, f⟩ := y
    have := f xs (g H s)
    rw [hv] at this
    cases this
    have gr := Grow.laid (o := .tup [.int (k + (i : Nat)), v]) s2 nT
    exact ⟨_, gr, .tup upd_same (.cons (.int _) (.cons (rv.mono (s1.trans gr.s)) .nil))⟩
def srcE (f : EF) : En → O (List D) := fun ρ => (f ρ).bind fun x ρ1 => match x with
  | .st d => (match itemsD d with
    | some (_, ds) => .ok (enumD 0 ds) ρ1
    | none => .bad)
  | _ => .bad
def srcEk (f g : EF) : En → O (List D) := fun ρ => (f ρ).bind fun x ρ1 => (g ρ1).bind fun y ρ2 => match x, y with
  | .st d, .st (.int k) => (match itemsD d with
    | some (_, ds) => if rngOk k = true then .ok (enumD k ds) ρ2 else .bad
    | none => .bad)
  | _, _ => .bad
section
variable {X : Cx} {B : Bs} {W : WX} {e : Expr} {fa fb : EF} {p pos tpos : Pos} {elts : List Expr} {kk : Nat}
theorem pid_enum {z : Expr} (h : PI X (.Tuple elts kk tpos) z (fun σ H R => tCons (tD X.K X.mg B W fa) tNil σ H fun vs H1 => ∃ (q : Bool) (a : Addr) (xs : List V), vs = [.ref a] ∧ SqX q X.K H1 a xs ∧ R (IteS X.K q 0 a) H1)) : PID X B W (.Tuple elts kk tpos) z (srcE fa) := PI.imp h fun σ H R' ⟨Hs, ρ, sl, q⟩ => by
  refine ⟨Hs, ρ, sl, OP.imp (OP.bind q) fun x ρ1 Hs1 H1 _ sl1 e1 q1 v hv => ?_⟩
  cases x <;> first | exact q1.elim | skip
  rename_i d ex
  clear ex
  dsimp only at q1
  cases ed : itemsD d with
  | none => rw [ed] at q1; exact q1.elim
  | some bd =>
    obtain ⟨b1, ds⟩ := bd
    rw [ed] at q1
    obtain ⟨a, xs, rfl, r1, g1⟩ := Rep.seqX hv ed
    exact ⟨b1, a, xs, rfl, g1 _ sl1.sub, q1 Hs1 H1 sl1 (.refl _) _ (walk_enumS r1 g1)⟩
theorem pid_enumk {z : Expr} (h : PI X (.Tuple elts kk tpos) z (fun σ H R => tCons (tD X.K X.mg B W fa) tNil σ H fun vs H1 => tCons (tD X.K X.mg B W fb) tNil σ H1 fun ks H2 => ∃ (k : Int) (q : Bool) (a : Addr) (xs : List V), ks = [.int k] ∧ -(2 ^ 63) ≤ k ∧ k < 2 ^ 63 ∧ vs = [.ref a] ∧ SqX q X.K H2 a xs ∧ R (IteS X.K q k a) H2)) : PID X B W (.Tuple elts kk tpos) z (srcEk fa fb) := PI.imp h fun σ H R' ⟨Hs, ρ, sl, q⟩ => by
  refine ⟨Hs, ρ, sl, OP.imp (OP.bind q) fun x ρ1 Hs1 H1 _ sl1 e1 q1 v hv => ?_⟩
  refine ⟨Hs1, ρ1, sl1, OP.imp (OP.bind q1) fun y ρ2 Hs2 H2 _ sl2 e2 q2 u hu => ?_⟩
  cases x <;> first | exact q2.elim | skip
  rename_i d ex
  clear ex
  cases y <;> first | exact q2.elim | skip
  rename_i d2 ey
  clear ey
  cases d2 <;> first | exact q2.elim | skip
  rename_i k
  dsimp only at q2
  cases ed : itemsD d with
  | none => rw [ed] at q2; exact q2.elim
  | some bd =>
    obtain ⟨b1, ds⟩ := bd
    rw [ed] at q2
    dsimp only at q2
    by_cases c : rngOk k = true
    · rw [if_pos c] at q2
      obtain ⟨k0, k1⟩ := rng_ok c
      obtain ⟨a, xs, rfl, r1, g1⟩ := Rep.seqX (Rep.mono e2 hv) ed
      cases hu
      exact ⟨k, b1, a, xs, rfl, by omega, by omega, rfl, g1 _ sl2.sub, q2 Hs2 H2 sl2 (.refl _) _ (walk_enumS r1 g1)⟩
    · rw [if_neg c] at q2; exact q2.elim
end
end DL

/-! DR -/
set_option maxHeartbeats 1000000
/-! t[::-1] of a tuple -/
namespace DZ
open PySem PySem.Spec PyProof.Rows L2
theorem rev_places (n : Nat) : Builtin.Slice.slicePlaces ((n : Int) - 1) (-1) (-1) = n := by
  unfold Builtin.Slice.slicePlaces
  have h1 : ¬ ((-1 : Int) > 0) := by decide
  simp only [h1, if_false]
  have e : (- -1 : Int) = 1 := by decide
  rw [e, Int.ediv_one]
  split <;> omega
theorem rev_pick (xs : Array Value) : ((List.range xs.size).filterMap fun (k : Nat) => xs[(((xs.size : Int) - 1) + (k : Int) * (-1)).toNat]?).toArray = xs.toList.reverse.toArray := by
  have e : (List.range xs.size).filterMap (fun (k : Nat) => xs[(((xs.size : Int) - 1) + (k : Int) * (-1)).toNat]?) = ((List.range xs.size).map fun k => xs.size - 1 - k).filterMap (xs[·]?) := by
    have g : ∀ ks : List Nat, (∀ k ∈ ks, k < xs.size) → ks.filterMap (fun (k : Nat) => xs[(((xs.size : Int) - 1) + (k : Int) * (-1)).toNat]?) = (ks.map fun k => xs.size - 1 - k).filterMap (xs[·]?) := by
      intro ks
      induction ks with
      | nil => exact fun _ => rfl
      | cons k ks ih =>
        intro h
        have hk := h k (List.mem_cons_self ..)
        rw [List.map_cons, List.filterMap_cons, List.filterMap_cons, ih fun j m => h j (List.mem_cons_of_mem _ m), show (((xs.size : Int) - 1) + (k : Int) * (-1)).toNat = xs.size - 1 - k by omega]
    exact g _ fun k hk => List.mem_range.mp hk
  rw [e, PySem.W.krv_range, List.filterMap_reverse, PySem.W.krv_all]
section
variable {prog : Program} {w : World} {A : Around} {E : Value → Shared → Prop} {s : Shared}
theorem sliceApplied_rev {sl : Addr} {vl vu vs : Value} {n : Nat} {Q : Int × Int × Nat → Shared → Prop} (hs : s.heap.IsSliceOf sl vl vu vs) (pl : IsPart vl none) (pu : IsPart vu none) (ps : IsPart vs (some (-1)))
    (h : Q (((n : Int) - 1), -1, n) s) : wpAny (model prog w) A (Builtin.Slice.sliceApplied (.ref sl) (pure (n : Int))) Q E s := by
  obtain ⟨os, hos, hcs, hds⟩ := id hs
  unfold Builtin.Slice.sliceApplied Builtin.Slice.sliceFields
  refine wpAny_bind (wpAny_bind (wpAny_field hos hds (x := vl) rfl (wpAny_bind (wpAny_field hos hds (x := vu) rfl (wpAny_bind (wpAny_field hos hds (x := vs) rfl (wpAny_pure ?_)))))))
  refine wpAny_bind (HT.slicePart_ ps ?_)
  show wpAny _ _ (if ((-1 : Int) == 0) = true then _ else _) _ _ s
  rw [if_neg (by decide)]
  refine wpAny_bind (HT.slicePart_ pl (wpAny_bind (HT.slicePart_ pu (wpAny_bind (wpAny_pure ?_)))))
  show wpAny _ _ (pure (((n : Int) - 1), (-1 : Int), Builtin.Slice.slicePlaces ((n : Int) - 1) (-1) (-1))) _ _ s
  rw [rev_places]
  exact wpAny_pure h
theorem getItem_tuple_rev {t sl : Addr} {items : Array Value} {vl vu vs : Value} {Q : Value → Shared → Prop} (ht : IsTup s.heap t items) (hs : s.heap.IsSliceOf sl vl vu vs) (pl : IsPart vl none) (pu : IsPart vu none) (ps : IsPart vs (some (-1)))
    (h : Q (.ref s.heap.objs.size) { s with heap := s.heap.push { cls := .type "tuple", data := .seq items.toList.reverse.toArray } })
    (hsz : items.size ≤ sizeLine) : wpAny (model prog w) A (getItem (.ref t) (.ref sl)) Q E s := by
  have htake : sizeOk (.seq items.toList.reverse.toArray) := by
    show items.toList.reverse.toArray.size ≤ sizeLine
    rw [List.size_toArray, List.length_reverse, Array.length_toList]
    exact hsz
  obtain ⟨os, hos, hcs, hds⟩ := id hs
  have hTs : s.TypeIs (.ref sl) "slice" := ⟨os, hos, hcs⟩
  unfold getItem
  try with_reducible refine wpAny_holding ?_
  first | refine wpAny_bind (wpAny_pure ?_) | skip
  refine wpAny_bind (wpAny_sequenceKey ht.typeIs (by decide) ?_)
  refine wpAny_bind (wpAny_callSpecial?_slot (name := Str.ofString "__getitem__") ht.typeIs PyProof.Rows.slot_tuple_getitem (wpAny_call_entry PyProof.Rows.slot_tuple_getitem ht.typeIs entry_tuple_getitem ?_ (args_tuple_getitem _ _)))
  show wpAny _ _ (Builtin.Tuple.tupleItemsOf (.ref t) >>= _) _ _ s
  refine wpAny_bind (tupleItemsOf_ ht (wpAny_bind (wpAny_typeOf hTs ?_)))
  rw [if_pos (by decide)]
  refine wpAny_bind (sliceApplied_rev hs pl pu ps ?_)
  have hno : ¬ ((((items.size : Int) - 1) == 0 && (-1 : Int) == 1 && items.size == items.size) = true) := by
    intro q
    rw [Bool.and_eq_true, Bool.and_eq_true] at q
    exact absurd q.1.2 (by decide)
  show wpAny _ _ (if (((items.size : Int) - 1) == 0 && (-1 : Int) == 1 && items.size == items.size) = true then _ else _) _ _ s
  rw [if_neg hno, rev_pick]
  first
    | exact wpAny_bind (m := Builtin.Tuple.tupleExact _) (wpAny_newObj_type (wpAny_pure ⟨_, rfl, wpAny_pure h⟩) htake)
    | exact wpAny_bind (m := Builtin.Tuple.tupleExact _) (wpAny_newObj_type (wpAny_bind (wpAny_pure (wpAny_pure ⟨_, rfl, wpAny_pure h⟩))) htake)
    | exact wpAny_bind (wpAny_bind (m := Builtin.Tuple.tupleExact _) (wpAny_newObj_type (wpAny_pure (wpAny_pure ⟨_, rfl, wpAny_pure h⟩)) htake))
    | exact wpAny_bind (wpAny_bind (m := Builtin.Tuple.tupleExact _) (wpAny_newObj_type (wpAny_pure ⟨_, rfl, wpAny_pure h⟩) htake))
end
theorem pe_revT {X : Cx} {e : Expr} {te : TE} {k : Nat} {p1 p2 p3 pos : Pos} (he : PE X e te) : PE X (.Subscript e (.Slice none none (some (.UnaryOp .USub (.Constant (.int 1) k p1) p2)) p3) pos)
    (fun σ H Q => te σ H fun x H1 => ∃ (q : Bool) (a : Addr) (xs : List V), x = .ref a ∧ SqX q X.K H1 a xs ∧ ∀ p, H1 p = none → Q (.ref p) (upd H1 p (if q = true then .lst xs.reverse else .tup xs.reverse))) := by
  refine ⟨fun pins s σ H Q I h => ?_⟩
  refine Subscript_ (thn (he.run pins s σ H _ I h) fun v s1 ⟨x, H1, I1, r1, q1⟩ => ?_)
  obtain ⟨qb, a, xs, ex, hx, q⟩ := q1
  subst ex
  cases r1
  have hst : PO X (some (.UnaryOp .USub (.Constant (.int 1) k p1) p2)) (tPart (tUn (rU fun i => .int (-i)) (tC (.int 1)))) := po_some (pe_un un_neg pe_int)
  refine wpAny_Slice (thn (po_none.run pins s1 σ H1 (fun o H2 => o = none ∧ H2 = H1) I1 ⟨rfl, rfl⟩) fun vl s2 ⟨l, H2, I2, pl, el, e2⟩ => ?_)
  subst el e2
  refine thn (po_none.run pins s2 σ H2 (fun o H3 => o = none ∧ H3 = H2) I2 ⟨rfl, rfl⟩) fun vu s3 ⟨u, H3, I3, pu, eu, e3⟩ => ?_
  subst eu e3
  refine thn (hst.run pins s3 σ H3 (fun o H4 => o = some (-1) ∧ H4 = H3) I3 ⟨1, rfl, -1, rfl, rfl, rfl⟩) fun vs s4 ⟨o, H4, I4, ps, eo, e4⟩ => ?_
  subst eo e4
  have I5 : Inv X pins σ H4 { s4 with heap := s4.heap.push { cls := .type "slice", data := .fields #[vl, vu, vs] } } := I4.kept (t' := s4.toks) fun b ob q => Heap.get?_push_of_some _ q
  show wpAny (model X.prog X.w) X.A (subscriptTail e (.Slice none none (some (.UnaryOp .USub (.Constant (.int 1) k p1) p2)) p3) (.ref a) (.ref s4.heap.objs.size)) (EP X pins σ Q) X.xe { s4 with heap := s4.heap.push { cls := .type "slice", data := .fields #[vl, vu, vs] } }
  cases qb
  · obtain ⟨its, r, ht, hz⟩ := I5.tuple (show SqT X.K H4 a xs from hx)
    have hlen := r.length
    refine tail_any (ops := [.ref a, .ref s4.heap.objs.size]) ht.typeIs (PyProof.Rows.slot_tuple_getitem.lookup) ?_ (by with_unfolding_all rfl)
    refine getItem_tuple_rev ht (Heap.IsSliceOf.new _ vl vu vs) pl pu ps ?_ (by rw [List.size_toArray]; omega)
    refine ⟨.ref _, _, I5.laid (t' := s4.toks) (o := .tup xs.reverse) (fun b ob q => Heap.get?_push_of_some _ q) (Nat.le_refl _) ?_, rfl, q _ (I5.hok.fresh (Nat.le_refl _))⟩
    exact ⟨by rw [List.length_reverse]; exact hz, _, r.reverse, ⟨_, Heap.get?_push_size _ rfl, rfl, 0, rfl⟩⟩
  · obtain ⟨its, r, ht, hz⟩ := I5.list (show SqL X.K H4 a xs from hx)
    have hlen := r.length
    refine tail_any (ops := [.ref a, .ref s4.heap.objs.size]) ht.isList.typeIs (PySem.slot_list_getitem.lookup) ?_ (by with_unfolding_all rfl)
    refine wpAny_getItem_list_slice ht.isList (Heap.IsSliceOf.new _ vl vu vs) pl pu ps (by decide) ?_ (by rw [List.size_toArray]; omega)
    rw [PySem.W.krv_pick]
    refine ⟨.ref _, _, I5.laid (t' := s4.toks) (o := .lst xs.reverse) (fun b ob q => Heap.get?_push_of_some _ q) (Nat.le_refl _) ?_, rfl, q _ (I5.hok.fresh (Nat.le_refl _))⟩
    exact ⟨by rw [List.length_reverse]; exact hz, _, 0, r.reverse, Heap.get?_push_size _ rfl⟩
end DZ
namespace DL
open PySem PySem.Spec PyProof.Rows L2 DZ
def revA : D → Option D
  | .list ds => some (.list ds.reverse)
  | .tuple ds => some (.tuple ds.reverse)
  | _ => none
theorem pd_revA {X : Cx} {B : Bs} {W : WX} {e : Expr} {fa : EF} {pos : Pos} {k : Nat} {p1 p2 p3 : Pos} (ha : PD X B W e fa) : PD X B W (.Subscript e (.Slice none none (some (.UnaryOp .USub (.Constant (.int 1) k p1) p2)) p3) pos) (op1 revA fa) := PE.imp (pe_revT ha) fun σ H Q ⟨Hs, ρ, sl, q⟩ => by
  refine ⟨Hs, ρ, sl, OP.imp (OP.bind q) fun x ρ1 Hs1 H1 _ sl1 e1 q1 v hv => ?_⟩
  cases ex : x.get ρ1 with
  | none => rw [ex] at q1; exact q1.elim
  | some d =>
    rw [ex, Option.bind_some] at q1
    have s := sl1.look hv ex
    cases d <;> first | exact q1.elim | skip
    · obtain ⟨p, vs, rfl, h, r⟩ := s.lst sl1.sub
      refine ⟨true, p, vs, rfl, .inl (.inl h), fun p' np => ?_⟩
      have g : Grow Hs1 H1 _ _ := Grow.laid (o := .lst vs.reverse) sl1.sub np
      exact q1 _ _ (sl1.grow g) g.s _ (.lst upd_same (r.rev.mono g.s))
    · obtain ⟨p, vs, rfl, h, r⟩ := s.tup sl1.sub
      refine ⟨false, p, vs, rfl, h, fun p' np => ?_⟩
      have g : Grow Hs1 H1 _ _ := Grow.laid (o := .tup vs.reverse) sl1.sub np
      exact q1 _ _ (sl1.grow g) g.s _ (.tup upd_same (r.rev.mono g.s))
end DL

/-! DT -/
namespace DL
open PySem PySem.Spec PyProof.Rows L2

/-! ### nodes of trees, seen as lists of values and of data -/
def unbox : D → Option D
  | .dict [(.bool true, d)] => some d
  | _ => none
theorem unbox_bx (d : D) : unbox (bx d) = some d := rfl
theorem unbox_eq : ∀ {d c : D}, unbox d = some c → d = bx c := fun {d c} h => by
  unfold unbox at h
  split at h
  · cases h; rfl
  · cases h
def kids : D → List D
  | .list ds => ds
  | .dict ((.none, _) :: kvs) => kvs.map (·.2)
  | .dict ((.bool false, _) :: kvs) => kvs.map (·.2)
  | .dict kvs => kvs.map (·.2)
  | _ => []
def zipK (kvs : List (D × D)) (es : List D) : List (D × D) := List.zipWith (fun kv e => (kv.1, e)) kvs es
def withKids : D → List D → D
  | .list _, es => .list es
  | .dict ((.none, c) :: kvs), es => .dict ((.none, c) :: zipK kvs es)
  | .dict ((.bool false, c) :: kvs), es => .dict ((.bool false, c) :: zipK kvs es)
  | .dict kvs, es => .dict (zipK kvs es)
  | d, _ => d
def vals : HO → List V
  | .lst vs => vs
  | .dK ks => ks.map (·.2)
  | .dT ks => ks.map (·.2)
  | .ins _ _ fs => fs.map (·.2)
  | _ => []
section
variable {K : Fg} {P : Pin} {Hs H Hs' H' : Hp}
theorem TreK.kids : ∀ {ks : List (Key × V)} {kvs : List (D × D)} {f : List Addr}, TreK K P Hs H ks kvs f → TreA K P Hs H (ks.map (·.2)) (kvs.map (·.2)) f ∧ ∀ {es : List D} {f' : List Addr}, TreA K P Hs' H' (ks.map (·.2)) es f' → TreK K P Hs' H' ks (zipK kvs es) f'
  | _, _, _, .nil => ⟨.nil, fun h => by cases h; exact .nil⟩
  | _, _, _, .cons a b => ⟨.cons a b.kids.1, fun h => by cases h with | cons x y => exact .cons x (b.kids.2 y)⟩
theorem TreT.kids : ∀ {ks : List (List Key × V)} {kvs : List (D × D)} {f : List Addr}, TreT K P Hs H ks kvs f → TreA K P Hs H (ks.map (·.2)) (kvs.map (·.2)) f ∧ ∀ {es : List D} {f' : List Addr}, TreA K P Hs' H' (ks.map (·.2)) es f' → TreT K P Hs' H' ks (zipK kvs es) f'
  | _, _, _, .nil => ⟨.nil, fun h => by cases h; exact .nil⟩
  | _, _, _, .cons a b => ⟨.cons a b.kids.1, fun h => by cases h with | cons x y => exact .cons x (b.kids.2 y)⟩
theorem TreI.kids : ∀ {ks : List (Str × V)} {kvs : List (D × D)} {f : List Addr}, TreI K P Hs H ks kvs f → TreA K P Hs H (ks.map (·.2)) (kvs.map (·.2)) f ∧ ∀ {es : List D} {f' : List Addr}, TreA K P Hs' H' (ks.map (·.2)) es f' → TreI K P Hs' H' ks (zipK kvs es) f'
  | _, _, _, .nil => ⟨.nil, fun h => by cases h; exact .nil⟩
  | _, _, _, .cons a b => ⟨.cons a b.kids.1, fun h => by cases h with | cons x y => exact .cons x (b.kids.2 y)⟩
theorem TreK.nokey : ∀ {ks : List (Key × V)} {kvs : List (D × D)} {f : List Addr}, TreK K P Hs H ks kvs f → DL.kids (.dict kvs) = kvs.map (·.2) ∧ ∀ es, withKids (.dict kvs) es = .dict (zipK kvs es)
  | _, _, _, .nil => ⟨rfl, fun _ => rfl⟩
  | _, _, _, .cons (k := k) _ _ => by cases k <;> exact ⟨rfl, fun _ => rfl⟩
/-- no data that stay look like an own object -/
theorem Rep.nobx {v : V} {c : D} (r : Rep K H v (bx c)) : False := by
  unfold bx at r
  generalize e : PyData.dict [(PyData.bool true, c)] = x at r
  cases r with
  | dK _ r =>
    cases r with
    | nil => cases e
    | @cons k _ _ _ _ _ _ => cases k <;> cases e
  | _ => cases e
/-- an own object: its kind, its parts -/
theorem Tre.node {v : V} {d : D} {f : List Addr} (t : Tre K P Hs H v (bx d) f) : ∃ a o h g, v = .ref a ∧ H a = some o ∧ f = a :: (h ++ g) ∧ TreA K P Hs H (vals o) (DL.kids d) g ∧
    ∀ Hs' H', (∀ b ∈ a :: h, (∀ u, H b = some u → H' b = some u) ∧ Hs' b = none) → ∀ es g', TreA K P Hs' H' (vals o) es g' → Tre K P Hs' H' v (bx (withKids d es)) (a :: (h ++ g')) := by
  generalize e : bx d = x at t
  cases t with
  | st r => subst e; exact (r.nobx).elim
  | @lst a vs ds g h n r =>
    have e2 : d = .list ds := by unfold bx at e; cases e; rfl
    subst e2
    exact ⟨a, _, [], g, rfl, h, rfl, r, fun Hs' H' st es g' t' => .lst ((st a List.mem_cons_self).1 _ h) (st a List.mem_cons_self).2 t'⟩
  | @dK a ks kvs g h n r =>
    have e2 : d = .dict kvs := by unfold bx at e; cases e; rfl
    subst e2
    refine ⟨a, _, [], g, rfl, h, rfl, ?_, fun Hs' H' st es g' t' => ?_⟩
    · rw [r.nokey.1]; exact (r.kids (Hs' := Hs) (H' := H)).1
    · rw [r.nokey.2]; exact .dK ((st a List.mem_cons_self).1 _ h) (st a List.mem_cons_self).2 (r.kids.2 t')
  | @dT a ks kvs g h n r =>
    have e2 : d = .dict (tagT :: kvs) := by unfold bx at e; cases e; rfl
    subst e2
    refine ⟨a, _, [], g, rfl, h, rfl, ?_, fun Hs' H' st es g' t' => ?_⟩
    · exact (r.kids (Hs' := Hs) (H' := H)).1
    · exact .dT ((st a List.mem_cons_self).1 _ h) (st a List.mem_cons_self).2 (r.kids.2 t')
  | @ins a dx c fs kvs g h h2 n n2 r =>
    have e2 : d = .dict ((.none, .str c) :: kvs) := by unfold bx at e; cases e; rfl
    subst e2
    refine ⟨a, _, [dx], g, rfl, h, rfl, (r.kids (Hs' := Hs) (H' := H)).1, fun Hs' H' st es g' t' => ?_⟩
    exact .ins ((st a List.mem_cons_self).1 _ h) ((st dx (List.mem_cons_of_mem _ List.mem_cons_self)).1 _ h2) (st a List.mem_cons_self).2 (st dx (List.mem_cons_of_mem _ List.mem_cons_self)).2 (r.kids.2 t')
theorem TreA.len : ∀ {vs : List V} {ds : List D} {f : List Addr}, TreA K P Hs H vs ds f → vs.length = ds.length
  | _, _, _, .nil => rfl
  | _, _, _, .cons _ b => congrArg Nat.succ b.len
/-- a part of it -/
theorem TreA.at_ : ∀ {vs : List V} {ds : List D} {f : List Addr} {k : Nat} {d : D}, TreA K P Hs H vs ds f → ds[k]? = some d → ∃ v f1 fk f2, vs[k]? = some v ∧ f = f1 ++ (fk ++ f2) ∧ Tre K P Hs H v d fk ∧
    ∀ Hs' H', Same Hs Hs' → (∀ b ∈ f1 ++ f2, (∀ u, H b = some u → H' b = some u) ∧ Hs' b = none) → ∀ v' d' fk', Tre K P Hs' H' v' d' fk' → TreA K P Hs' H' (vs.set k v') (ds.set k d') (f1 ++ (fk' ++ f2))
  | _, _, _, _, _, .nil, h => by simp at h
  | _, _, _, 0, _, .cons (f := fa) (g := ga) a b, h => by
    simp at h
    subst h
    exact ⟨_, [], fa, ga, rfl, rfl, a, fun Hs' H' e st v' d' fk' t => TreA.cons (f := fk') (g := ga) t (b.mono e (fun _ _ z => z) (fun c m => (st c m).1) fun c m _ => (st c m).2)⟩
  | _, _, _, k + 1, _, .cons (f := fa) (g := ga) a b, h => by
    obtain ⟨v, f1, fk, f2, h1, h2, h3, h4⟩ := b.at_ (by simpa using h)
    refine ⟨v, fa ++ f1, fk, f2, by simpa using h1, by rw [h2, List.append_assoc], h3, fun Hs' H' e st v' d' fk' t => ?_⟩
    rw [List.append_assoc]
    rw [List.append_assoc] at st
    exact .cons (a.mono e (fun _ _ z => z) (fun c m => (st c (List.mem_append_left _ m)).1) fun c m _ => (st c (List.mem_append_left _ m)).2) (h4 Hs' H' e (fun c m => st c (List.mem_append_right _ m)) v' d' fk' t)
end
/-! ### places within -/
def getIn : D → List Nat → Option D
  | d, [] => some d
  | d, k :: ks => (((kids d)[k]?).bind unbox).bind fun c => getIn c ks
def setIn : D → List Nat → D → D
  | _, [], x => x
  | d, k :: ks, x => match ((kids d)[k]?).bind unbox with
    | some c => withKids d ((kids d).set k (bx (setIn c ks x)))
    | none => d
/-- the value that stands there -/
def valAt (H : Hp) : V → D → List Nat → Option V
  | v, _, [] => some v
  | .ref a, d, k :: ks => (H a).bind fun o => ((vals o)[k]?).bind fun w => (((kids d)[k]?).bind unbox).bind fun c => valAt H w c ks
  | _, _, _ :: _ => none
section
variable {K : Fg} {P : Pin} {Hs H : Hp}
theorem Tre.focus : ∀ (path : List Nat) {v : V} {d c : D} {f : List Addr}, Tre K P Hs H v (bx d) f → f.Nodup → getIn d path = some c → ∃ q fc, valAt H v d path = some (.ref q) ∧ Tre K P Hs H (.ref q) (bx c) fc ∧ (∀ a ∈ fc, a ∈ f) ∧ fc.Nodup ∧
    ∀ Hs' H' c' fc', Same Hs Hs' → (∀ a ∈ f, a ∉ fc → (∀ o, H a = some o → H' a = some o) ∧ Hs' a = none) → Tre K P Hs' H' (.ref q) (bx c') fc' → fc'.Nodup → (∀ a ∈ fc', a ∈ fc ∨ a ∉ f) →
      ∃ f', Tre K P Hs' H' v (bx (setIn d path c')) f' ∧ f'.Nodup ∧ ∀ a ∈ f', (a ∈ f ∧ a ∉ fc) ∨ a ∈ fc'
  | [], v, d, c, f, t, nd, e => by
    cases e
    obtain ⟨a, _, _, _, rfl, _⟩ := t.node
    exact ⟨a, f, rfl, t, fun _ m => m, nd, fun Hs' H' c' fc' e st t' nd' dj => ⟨fc', t', nd', fun a m => .inr m⟩⟩
  | k :: ks, v, d, c, f, t, nd, e => by
    obtain ⟨a, o, h, g, rfl, ho, ef, tA, close⟩ := t.node
    unfold getIn at e
    cases e1 : (kids d)[k]? with
    | none => rw [e1] at e; cases e
    | some x =>
      rw [e1, Option.bind_some] at e
      cases e2 : unbox x with
      | none => rw [e2] at e; cases e
      | some c1 =>
        rw [e2, Option.bind_some] at e
        have ex := unbox_eq e2
        subst ex
        obtain ⟨w, f1, fk, f2, hw, ef2, tk, cl⟩ := tA.at_ e1
        subst ef ef2
        have n1 : fk.Nodup := (List.nodup_append.mp (List.nodup_append.mp (List.nodup_append.mp (List.nodup_cons.mp nd).2).2.1).2.1).1
        obtain ⟨q, fc, v1, t1, s1, nc, back⟩ := Tre.focus ks tk n1 e
        have inK : ∀ {b}, b ∈ fk → b ∈ a :: (h ++ (f1 ++ (fk ++ f2))) := fun m => List.mem_cons_of_mem _ (List.mem_append_right _ (List.mem_append_right _ (List.mem_append_left _ m)))
        have hd : ∀ b, b ∈ a :: h → b ∈ a :: (h ++ (f1 ++ (fk ++ f2))) ∧ b ∉ fk := fun b m => by
          rcases List.mem_cons.mp m with rfl | m
          · exact ⟨List.mem_cons_self, fun z => (List.nodup_cons.mp nd).1 (List.mem_append_right _ (List.mem_append_right _ (List.mem_append_left _ z)))⟩
          · exact ⟨List.mem_cons_of_mem _ (List.mem_append_left _ m), fun z => (List.nodup_append.mp (List.nodup_cons.mp nd).2).2.2 b m b (List.mem_append_right _ (List.mem_append_left _ z)) rfl⟩
        have sd : ∀ b, b ∈ f1 ++ f2 → b ∈ a :: (h ++ (f1 ++ (fk ++ f2))) ∧ b ∉ fk := fun b m => by
          have nn := (List.nodup_append.mp (List.nodup_cons.mp nd).2).2.1
          rcases List.mem_append.mp m with m | m
          · exact ⟨List.mem_cons_of_mem _ (List.mem_append_right _ (List.mem_append_left _ m)), fun z => (List.nodup_append.mp nn).2.2 b m b (List.mem_append_left _ z) rfl⟩
          · exact ⟨List.mem_cons_of_mem _ (List.mem_append_right _ (List.mem_append_right _ (List.mem_append_right _ m))), fun z => (List.nodup_append.mp (List.nodup_append.mp nn).2.1).2.2 b z b m rfl⟩
        refine ⟨q, fc, ?_, t1, fun b m => inK (s1 b m), nc, fun Hs' H' c' fc' es st t' nd' dj => ?_⟩
        · unfold valAt
          rw [ho, Option.bind_some, hw, Option.bind_some, e1, Option.bind_some, unbox_bx, Option.bind_some]
          exact v1
        · obtain ⟨f', t2, n2, in2⟩ := back Hs' H' c' fc' es (fun b m m2 => st b (inK m) m2) t' nd' (fun b m => by
            rcases dj b m with z | z
            · exact .inl z
            · exact .inr fun y => z (inK y))
          have tA' := cl Hs' H' es (fun b m => st b (sd b m).1 fun z => (sd b m).2 (s1 b z)) w (bx (setIn c1 ks c')) f' t2
          rw [show (vals o).set k w = vals o from by
            refine List.ext_getElem? fun i => ?_
            by_cases hi : k = i
            · subst hi
              have hl := (List.getElem?_eq_some_iff.mp hw).1
              rw [List.getElem?_set_self hl, hw]
            · rw [List.getElem?_set_ne hi]] at tA'
          have t3 := close Hs' H' (fun b m => st b (hd b m).1 fun z => (hd b m).2 (s1 b z)) _ _ tA'
          refine ⟨a :: (h ++ (f1 ++ (f' ++ f2))), ?_, ?_, ?_⟩
          · unfold setIn
            rw [e1, Option.bind_some, unbox_bx]
            exact t3
          · -- no address twice
            have fresh : ∀ b ∈ f', b ∉ a :: h ∧ b ∉ f1 ++ f2 := fun b m => by
              rcases in2 b m with z | z
              · exact ⟨fun y => (hd b y).2 z.1, fun y => (sd b y).2 z.1⟩
              · rcases dj b z with y | y
                · exact ⟨fun u => (hd b u).2 (s1 b y), fun u => (sd b u).2 (s1 b y)⟩
                · exact ⟨fun u => y (hd b u).1, fun u => y (sd b u).1⟩
            obtain ⟨na, nr⟩ := List.nodup_cons.mp nd
            obtain ⟨nh, nr, dh⟩ := List.nodup_append.mp nr
            obtain ⟨nf1, nr, df1⟩ := List.nodup_append.mp nr
            obtain ⟨_, nf2, _⟩ := List.nodup_append.mp nr
            refine List.nodup_cons.mpr ⟨fun z => ?_, List.nodup_append.mpr ⟨nh, List.nodup_append.mpr ⟨nf1, List.nodup_append.mpr ⟨n2, nf2, fun x mx y my => ?_⟩, fun x mx y my => ?_⟩, fun x mx y my => ?_⟩⟩
            · rcases List.mem_append.mp z with z | z
              · exact na (List.mem_append_left _ z)
              · rcases List.mem_append.mp z with z | z
                · exact na (List.mem_append_right _ (List.mem_append_left _ z))
                · rcases List.mem_append.mp z with z | z
                  · exact (fresh _ z).1 List.mem_cons_self
                  · exact na (List.mem_append_right _ (List.mem_append_right _ (List.mem_append_right _ z)))
            · rintro rfl
              exact (fresh _ mx).2 (List.mem_append_right _ my)
            · rintro rfl
              rcases List.mem_append.mp my with z | z
              · exact (fresh _ z).2 (List.mem_append_left _ mx)
              · exact df1 _ mx _ (List.mem_append_right _ z) rfl
            · rintro rfl
              rcases List.mem_append.mp my with z | z
              · exact dh _ mx _ (List.mem_append_left _ z) rfl
              · rcases List.mem_append.mp z with z | z
                · exact (fresh _ z).1 (List.mem_cons_of_mem _ mx)
                · exact dh _ mx _ (List.mem_append_right _ (List.mem_append_right _ z)) rfl
          · intro b m
            rcases List.mem_cons.mp m with rfl | m
            · exact .inl ⟨(hd _ List.mem_cons_self).1, fun z => (hd _ List.mem_cons_self).2 (s1 _ z)⟩
            · rcases List.mem_append.mp m with m | m
              · exact .inl ⟨(hd _ (List.mem_cons_of_mem _ m)).1, fun z => (hd _ (List.mem_cons_of_mem _ m)).2 (s1 _ z)⟩
              · rcases List.mem_append.mp m with m | m
                · exact .inl ⟨(sd _ (List.mem_append_left _ m)).1, fun z => (sd _ (List.mem_append_left _ m)).2 (s1 _ z)⟩
                · rcases List.mem_append.mp m with m | m
                  · rcases in2 b m with z | z
                    · exact .inl ⟨inK z.1, z.2⟩
                    · exact .inr z
                  · exact .inl ⟨(sd _ (List.mem_append_right _ m)).1, fun z => (sd _ (List.mem_append_right _ m)).2 (s1 _ z)⟩
end
end DL

/-! DT2 -/
namespace DL
open PySem PySem.Spec PyProof.Rows L2

/-! ### a slot's tree -/
def Slot.tree : Slot → Option D
  | .tre d => some d
  | .atr d => some d
  | _ => none
def Slot.putT (x : D) : Slot → Slot
  | .tre _ => .tre x
  | .atr _ => .atr x
  | s => s
section
variable {K : Fg} {B : Bs} {Hs H Hs' H' : Hp} {σ : L2.St} {ρ ρ' : En} {F : Nat → List Addr}
theorem tree_at {i : Nat} {s : Slot} {d : D} (sl : Sl K B Hs H σ ρ) (fe : FeetOk K B Hs H σ ρ F) (h : ρ[i]? = some s) (ht : s.tree = some d) :
    ∃ p, σ[i]? = some (some (.ref p)) ∧ TreP K B.pin Hs H p d (F i) ∧ ((∀ a ∈ F i, B.nw a ∨ B.own0 a) ∧ ∀ d', s = .tre d' → ∀ a ∈ F i, B.nw a) ∧ ∀ Hs' H' d' f', TreP K B.pin Hs' H' p d' f' → (∀ a ∈ f', a ∈ F i ∨ B.nw a) → Feet K B Hs' H' (some (.ref p)) (s.putT d') f' ∧ SlotOk K B Hs' H' (some (.ref p)) (s.putT d') := by
  obtain ⟨x, ex⟩ := sl_var sl h
  have ft := fe.at_ i x s ex h
  cases s with
  | tre d0 =>
    cases ht
    obtain ⟨p, rfl, t, z⟩ := ft
    refine ⟨p, ex, t, ⟨fun a m => .inl (z a m), fun _ _ => z⟩, fun Hs' H' d' f' t' m => ?_⟩
    have q : ∀ a ∈ f', B.nw a := fun a i => (m a i).elim (z a) id
    exact ⟨⟨p, rfl, t', q⟩, p, f', rfl, t', q⟩
  | atr d0 =>
    cases ht
    obtain ⟨p, rfl, t, r, z⟩ := ft
    refine ⟨p, ex, t, ⟨z, fun _ e => by cases e⟩, fun Hs' H' d' f' t' m => ?_⟩
    have q : ∀ a ∈ f', B.nw a ∨ B.own0 a := fun a i => (m a i).elim (z a) .inl
    exact ⟨⟨p, rfl, t', r, q⟩, p, f', rfl, t', r, q⟩
  | _ => cases ht
/-- a slot told anew, with what it owns -/
theorem Sl.retell {i : Nat} {s : Slot} {x : Option V} {f : List Addr} (sl : Sl K B Hs H σ ρ) (fe : FeetOk K B Hs H σ ρ F) (hx : σ[i]? = some x) (ft : Feet K B Hs H x s f) (ok : SlotOk K B Hs H x s) (dj : ∀ j, i ≠ j → ∀ a ∈ f, a ∉ F j) :
    Sl K B Hs H σ (ρ.set i s) ∧ FeetOk K B Hs H σ (ρ.set i s) fun j => if i = j then f else F j := by
  have hi : i < ρ.length := by
    rw [← sl.len]
    exact (List.getElem?_eq_some_iff.mp hx).1
  have fe' : FeetOk K B Hs H σ (ρ.set i s) fun j => if i = j then f else F j := by
    refine ⟨fun j y t a b => ?_, fun j a => ?_, fun j k hjk a ha hb => ?_⟩
    · by_cases e : i = j
      · subst e
        rw [List.getElem?_set_self hi] at b
        rw [hx] at a
        cases a
        cases b
        rw [if_pos rfl]
        exact ft
      · rw [List.getElem?_set_ne e] at b
        rw [if_neg e]
        exact fe.at_ j y t a b
    · by_cases e : i = j
      · subst e
        rw [List.getElem?_set_self hi] at a
        cases a
      · rw [List.getElem?_set_ne e] at a
        rw [if_neg e]
        exact fe.out j a
    · by_cases e : i = j
      · rw [if_pos e] at ha
        have ne : i ≠ k := fun z => hjk (e.symm.trans z)
        rw [if_neg ne] at hb
        exact dj k ne a ha hb
      · rw [if_neg e] at ha
        by_cases e2 : i = k
        · rw [if_pos e2] at hb
          exact dj j e a hb ha
        · rw [if_neg e2] at hb
          exact fe.dis j k hjk a ha hb
  refine ⟨⟨by rw [List.length_set]; exact sl.len, fun j y t a b => ?_, sl.sub, sl.base, sl.new, sl.keep, sl.there, _, fe'⟩, fe'⟩
  by_cases e : i = j
  · subst e
    rw [List.getElem?_set_self hi] at b
    rw [hx] at a
    cases a
    cases b
    exact ok
  · rw [List.getElem?_set_ne e] at b
    exact sl.ok j y t a b
/-- a place within a slot's tree: its address, what is to be shown to come back -/
structure Foc (K : Fg) (B : Bs) (Hs H : Hp) (σ : L2.St) (ρ : En) (i : Nat) (s : Slot) (d : D) (path : List Nat) (c : D) (p q : Addr) (f fc : List Addr) : Prop where
  hp : σ[i]? = some (some (.ref p))
  hv : valAt H (.ref p) d path = some (.ref q)
  t : Tre K B.pin Hs H (.ref q) (bx c) fc
  nd : fc.Nodup
  inF : ∀ a ∈ fc, a ∈ f
  th : ∀ a ∈ f, OwnAt H a ∧ Hs a = none
  may : ∀ a ∈ f, B.nw a ∨ B.own0 a
  mayT : ∀ d', s = .tre d' → ∀ a ∈ f, B.nw a
  hid : Sl K B Hs H σ (ρ.set i .un)
  feet : ∃ F, FeetOk K B Hs H σ (ρ.set i .un) F ∧ ∀ j, ∀ a ∈ f, a ∉ F j
  back : ∀ Hs' H' ρ' c' fc', Sl K B Hs' H' σ ρ' → (∃ F', FeetOk K B Hs' H' σ ρ' F' ∧ (∀ j, ∀ a ∈ f, a ∉ F' j) ∧ ∀ j, ∀ a ∈ fc', a ∉ F' j) → Same Hs Hs' → (∀ a ∈ f, a ∉ fc → (∀ o, H a = some o → H' a = some o) ∧ Hs' a = none) → Tre K B.pin Hs' H' (.ref q) (bx c') fc' → fc'.Nodup → (∀ a ∈ fc', a ∈ fc ∨ (a ∉ f ∧ B.nw a)) →
    Sl K B Hs' H' σ (ρ'.set i (s.putT (setIn d path c')))
  back0 : ∀ Hs' H' ρ', Sl K B Hs' H' σ ρ' → (∃ F', FeetOk K B Hs' H' σ ρ' F' ∧ (∀ j, ∀ a ∈ f, a ∉ F' j)) → Same Hs Hs' → (∀ a ∈ f, (∀ o, H a = some o → H' a = some o) ∧ Hs' a = none) → Sl K B Hs' H' σ (ρ'.set i s)
theorem Slot.putT_self {s : Slot} {d : D} (h : s.tree = some d) : s.putT d = s := by
  cases s <;> first | (cases h; done) | (cases h; rfl)
theorem Sl.foc {i : Nat} {s : Slot} {d c : D} {path : List Nat} (sl : Sl K B Hs H σ ρ) (h : ρ[i]? = some s) (ht : s.tree = some d) (hc : getIn d path = some c) : ∃ p q f fc, Foc K B Hs H σ ρ i s d path c p q f fc := by
  obtain ⟨F, fe⟩ := sl.feet
  obtain ⟨p, ep, t, may, mk⟩ := tree_at sl fe h ht
  obtain ⟨q, fc, hv, tq, inF, nd, bk⟩ := Tre.focus path t.1 t.2.2 hc
  have un := fe.reslot (i := i) (s := .un) rfl
  refine ⟨p, q, F i, fc, ep, hv, tq, nd, inF, fun a m => t.1.there a m, may.1, may.2, sl.reslot (fun _ _ => trivial) rfl, ⟨_, un, fun j a m z => ?_⟩, fun Hs' H' ρ' c' fc' sl' ⟨F', fe', n1, n2⟩ es st t' nd' dj => ?_, fun Hs' H' ρ' sl' ⟨F', fe', n1⟩ es st => ?_⟩
  · by_cases e : i = j
    · rw [if_pos e] at z; cases z
    · rw [if_neg e] at z
      exact fe.dis i j e a m z
  · obtain ⟨f', t2, n2', in2⟩ := bk Hs' H' c' fc' es st t' nd' fun a m => (dj a m).imp id (·.1)
    have hpf : p ∈ f' := by
      obtain ⟨a, o, hh, g, e1, _, e2, _⟩ := t2.node
      cases e1
      rw [e2]
      exact List.mem_cons_self
    obtain ⟨ft, ok⟩ := mk Hs' H' (setIn d path c') f' ⟨t2, hpf, n2'⟩ fun a m => by
      rcases in2 a m with z | z
      · exact .inl z.1
      · rcases dj a z with y | y
        · exact .inl (inF a y)
        · exact .inr y.2
    refine (sl'.retell fe' ep ft ok fun j _ a m z => ?_).1
    rcases in2 a m with y | y
    · exact n1 j a y.1 z
    · exact n2 j a y z
  · have t' : TreP K B.pin Hs' H' p d (F i) := t.mono es (fun a m o e => (st a m).1 o e) fun a m _ => (st a m).2
    obtain ⟨ft, ok⟩ := mk Hs' H' d (F i) t' fun a m => .inl m
    rw [Slot.putT_self ht] at ft ok
    exact (sl'.retell fe' ep ft ok fun j _ a m z => n1 j a m z).1
end

/-! ### evaluated while a slot is hidden -/
section
variable {K : Fg} {mg : MG} {B : Bs} {W : WX} {Hs H : Hp} {σ : L2.St} {ρ : En} {α : Type}
/-- what is evaluated aside leaves what is hidden -/
theorem Foc.aside {i : Nat} {s : Slot} {d c : D} {path : List Nat} {p q : Addr} {f fc : List Addr} (fo : Foc K B Hs H σ ρ i s d path c p q f fc) : ∃ B', Sl K B' Hs H σ (ρ.set i .un) ∧ B'.pin = B.pin ∧
    ∀ Hs' H' ρ', Sl K B' Hs' H' σ ρ' → Same Hs Hs' → Sl K B Hs' H' σ ρ' ∧ (∃ F', FeetOk K B Hs' H' σ ρ' F' ∧ ∀ j, ∀ a ∈ f, a ∉ F' j) ∧ ∀ a ∈ f, (∀ o, H a = some o → H' a = some o) ∧ Hs' a = none := by
  obtain ⟨F, fe, nf⟩ := fo.feet
  refine ⟨_, (fo.hid.inner fe).1, rfl, fun Hs' H' ρ' sl' es => ?_⟩
  obtain ⟨slo, all⟩ := fo.hid.outer fe sl'
  obtain ⟨F2, f2⟩ := sl'.feet
  have fl : ∀ a ∈ f, (∀ o, H a = some o → H' a = some o) ∧ Hs' a = none ∧ ∀ j, a ∉ F2 j := fun a m => by
    obtain ⟨⟨o, e, nt⟩, n⟩ := fo.th a m
    obtain ⟨h1, h2, h3⟩ := sl'.floats e nt n fun j => nf j a m
    exact ⟨fun o' e' => by rw [e] at e'; cases e'; exact h1, h2, h3 F2 f2⟩
  exact ⟨slo, ⟨F2, all F2 f2, fun j a m => (fl a m).2.2 j⟩, fun a m => ⟨(fl a m).1, (fl a m).2.1⟩⟩
end

/-! ### receivers: places that are told without a change -/
/-- an expression that changes nothing -/
def tQ (K : Fg) (B : Bs) (h : En → Option D) : TE := fun σ H Q => ∃ Hs ρ z, Sl K B Hs H σ ρ ∧ h ρ = some z ∧ ∀ v, Rep K Hs v z → Q v H
abbrev PQ (X : Cx) (B : Bs) (e : Expr) (h : En → Option D) : Prop := PE X e (tQ X.K B h)
def tRQ (K : Fg) (B : Bs) (i : Nat) (g : En → Option (List Nat)) : TE := fun σ H Q => ∃ Hs ρ s d path p, Sl K B Hs H σ ρ ∧ ρ[i]? = some s ∧ s.tree = some d ∧ σ[i]? = some (some (.ref p)) ∧ g ρ = some path ∧ ∀ v, valAt H (.ref p) d path = some v → Q v H
abbrev PRQ (X : Cx) (B : Bs) (e : Expr) (i : Nat) (g : En → Option (List Nat)) : Prop := PE X e (tRQ X.K B i g)
section
variable {X : Cx} {B : Bs} {W : WX} {a b c e : Expr} {pos : Pos} {h h2 : En → Option D} {i : Nat} {g : En → Option (List Nat)}
theorem pq_c {v : V} {d : D} (he : PE X e (tC v)) (r : ∀ H, Rep X.K H v d) : PQ X B e (fun _ => some d) := PE.imp he fun σ H Q ⟨Hs, ρ, z, sl, e, q⟩ => by
  cases e
  exact q v (r Hs)
theorem pq_int {i j pos} : PQ X B (.Constant (.int i) j pos) (fun _ => some (.int i)) := pq_c pe_int fun _ => .int i
def vrQ (i : Nat) : En → Option D := fun ρ => match ρ[i]? with
  | some (.val d) => some d
  | _ => none
theorem pq_v {i : Nat} (he : PE X e (tVar i)) : PQ X B e (vrQ i) := PE.imp he fun σ H Q ⟨Hs, ρ, z, sl, ez, q⟩ => by
  unfold vrQ at ez
  cases es : ρ[i]? with
  | none => rw [es] at ez; cases ez
  | some s =>
    rw [es] at ez
    cases s <;> first | (cases ez; done) | skip
    rename_i d
    cases ez
    obtain ⟨x, ex⟩ := sl_var sl es
    obtain ⟨v, rfl, r⟩ := sl.ok i x _ ex es
    exact ⟨v, ex, q v r⟩
/-- a tuple's, a list's item -/
def ixQ (h h2 : En → Option D) : En → Option D := fun ρ => (h ρ).bind fun d => (h2 ρ).bind fun e => match d with
  | .str _ => none
  | d => ixD d e
theorem pq_ix (ha : PQ X B a h) (hb : PQ X B b h2) (hs : PlainIx b) : PQ X B (.Subscript a b pos) (ixQ h h2) :=
  PE.imp (pe_ix ix_seq ha hb hs) fun σ H Q ⟨Hs, ρ, z, sl, ez, q⟩ => by
  unfold ixQ at ez
  cases e1 : h ρ with
  | none => rw [e1] at ez; cases ez
  | some d =>
    cases e2 : h2 ρ with
    | none => rw [e1, e2] at ez; cases ez
    | some e =>
      rw [e1, e2, Option.bind_some, Option.bind_some] at ez
      refine ⟨Hs, ρ, d, sl, e1, fun v hv => ⟨Hs, ρ, e, sl, e2, fun u hu => ?_⟩⟩
      cases d <;> first | (cases ez; done) | skip
      · rename_i ds
        cases e <;> first | (cases ez; done) | skip
        obtain ⟨p, vs, rfl, s, r⟩ := Shal.lst (H := Hs) (.inl hv) (.refl _)
        obtain ⟨w, e3, r2⟩ := r.atI ez
        exact .inl ⟨p, vs, _, w, rfl, Shal.int (H := Hs) (.inl hu), .inl (.inl (sl.sub _ _ s)), e3, q w r2⟩
      · rename_i ds
        cases e <;> first | (cases ez; done) | skip
        obtain ⟨p, vs, rfl, s, r⟩ := Shal.tup (H := Hs) (.inl hv) (.refl _)
        obtain ⟨w, e3, r2⟩ := r.atI ez
        exact .inr (.inl ⟨p, vs, _, w, rfl, Shal.int (H := Hs) (.inl hu), DL.Same.seqT sl.sub s, e3, q w r2⟩)
end
end DL

/-! DT3 -/
namespace DL
open PySem PySem.Spec PyProof.Rows L2

section
variable {K : Fg} {P : Pin} {Hs H : Hp}
theorem valAt_snoc : ∀ (path : List Nat) {v : V} {d c c1 : D} {a : Addr} {o : HO} {w : V} {j : Nat}, getIn d path = some c → valAt H v d path = some (.ref a) → H a = some o → (vals o)[j]? = some w → ((kids c)[j]?).bind unbox = some c1 → valAt H v d (path ++ [j]) = some w ∧ getIn d (path ++ [j]) = some c1
  | [], v, d, c, c1, a, o, w, j, e, hv, ho, hw, hk => by
    cases e
    have hv : some v = some (.ref a) := by cases v <;> exact hv
    cases hv
    refine ⟨?_, ?_⟩
    · show (H a).bind _ = _
      rw [ho, Option.bind_some, hw, Option.bind_some, hk, Option.bind_some]
      cases w <;> rfl
    · show Option.bind (((kids d)[j]?).bind unbox) _ = _
      rw [hk, Option.bind_some]
      rfl
  | k :: ks, v, d, c, c1, a, o, w, j, e, hv, ho, hw, hk => by
    cases v <;> first | (cases hv; done) | skip
    rename_i b
    unfold valAt at hv
    unfold getIn at e
    cases e1 : H b with
    | none => rw [e1] at hv; cases hv
    | some ob =>
      rw [e1, Option.bind_some] at hv
      cases e2 : (vals ob)[k]? with
      | none => rw [e2] at hv; cases hv
      | some x =>
        rw [e2, Option.bind_some] at hv
        cases e3 : ((kids d)[k]?).bind unbox with
        | none => rw [e3] at hv; cases hv
        | some c2 =>
          rw [e3, Option.bind_some] at hv e
          obtain ⟨h1, h2⟩ := valAt_snoc ks e hv ho hw hk
          refine ⟨?_, ?_⟩
          · rw [List.cons_append]
            unfold valAt
            rw [e1, Option.bind_some, e2, Option.bind_some, e3, Option.bind_some]
            exact h1
          · rw [List.cons_append]
            unfold getIn
            rw [e3, Option.bind_some]
            exact h2
/-- an own list -/
theorem Tre.lstOf {q : Addr} {ds : List D} {f : List Addr} (t : Tre K P Hs H (.ref q) (bx (.list ds)) f) : ∃ vs g, H q = some (.lst vs) ∧ Hs q = none ∧ f = q :: g ∧ TreA K P Hs H vs ds g := by
  generalize e : bx (.list ds) = x at t
  cases t with
  | st r => subst e; exact (r.nobx).elim
  | lst h n r => unfold bx at e; cases e; exact ⟨_, _, h, n, rfl, r⟩
  | dK h n r => unfold bx at e; cases e
  | dT h n r => unfold bx at e; cases e
  | ins h h2 n n2 r => unfold bx at e; cases e
end
section
variable {X : Cx} {B : Bs} {W : WX} {a b c e : Expr} {es : List Expr} {pos : Pos} {h h2 : En → Option D} {i : Nat} {g : En → Option (List Nat)} {fa : EF}
theorem prq_v {i : Nat} (he : PE X e (tVar i)) : PRQ X B e i (fun _ => some []) := PE.imp he fun σ H Q ⟨Hs, ρ, s, d, path, p, sl, es, et, ep, eg, q⟩ => by
  cases eg
  exact ⟨.ref p, ep, q _ rfl⟩
/-- the place of an item -/
def ixR (i : Nat) (g : En → Option (List Nat)) (h : En → Option D) : En → Option (List Nat) := fun ρ => (g ρ).bind fun path => (h ρ).bind fun z => ((ρ[i]?).bind Slot.tree).bind fun d => match getIn d path, z with
  | some (.list ds), .int k => (ixN ds.length k).bind fun j => match (ds[j]?).bind unbox with
    | some _ => some (path ++ [j])
    | none => none
  | _, _ => none
theorem prq_ix (ha : PRQ X B a i g) (hb : PQ X B b h) (hs : PlainIx b) : PRQ X B (.Subscript a b pos) i (ixR i g h) :=
  PE.imp (pe_ix ix_list ha hb hs) fun σ H Q ⟨Hs, ρ, s, d, path', p, sl, es, et, ep, eg, q⟩ => by
  unfold ixR at eg
  cases e1 : g ρ with
  | none => rw [e1] at eg; cases eg
  | some path =>
    cases e2 : h ρ with
    | none => rw [e1, e2] at eg; cases eg
    | some z =>
      rw [e1, e2, es, Option.bind_some, Option.bind_some, Option.bind_some, et, Option.bind_some] at eg
      cases e3 : getIn d path with
      | none => rw [e3] at eg; cases eg
      | some c =>
        rw [e3] at eg
        cases c <;> first | (cases eg; done) | skip
        rename_i ds
        cases z <;> first | (cases eg; done) | skip
        rename_i k
        dsimp only at eg
        cases e4 : ixN ds.length k with
        | none => rw [e4] at eg; cases eg
        | some j =>
          rw [e4, Option.bind_some] at eg
          cases e5 : (ds[j]?).bind unbox with
          | none => rw [e5] at eg; cases eg
          | some c1 =>
            rw [e5] at eg
            cases eg
            obtain ⟨p', qa, f, fc, fo⟩ := sl.foc es et e3
            obtain rfl : p' = p := by have := fo.hp; rw [ep] at this; cases this; rfl
            obtain ⟨vs, gg, hq, _, _, tA⟩ := fo.t.lstOf
            have hj : j < vs.length := by
              rw [tA.len]
              cases e6 : ds[j]? with
              | none => rw [e6] at e5; cases e5
              | some _ => exact (List.getElem?_eq_some_iff.mp e6).1
            have ew : vs[j]? = some vs[j] := List.getElem?_eq_getElem hj
            obtain ⟨w1, w2⟩ := valAt_snoc path e3 fo.hv hq ew e5
            refine ⟨Hs, ρ, s, d, path, p', sl, es, et, ep, e1, fun v hv => ⟨Hs, ρ, _, sl, e2, fun u hu => ?_⟩⟩
            rw [fo.hv] at hv
            cases hv
            refine ⟨qa, vs, k, vs[j], rfl, Shal.int (H := Hs) (.inl hu), .inl (.inl hq), ?_, q _ w1⟩
            unfold L2.atI
            rw [tA.len, e4, Option.bind_some]
            exact ew
end
section
variable {K : Fg} {B : Bs} {Hs H Hs1 H1 : Hp} {σ : L2.St} {ρ ρ1 : En}
/-- the object at the place is written: back in the slot's tree -/
theorem Foc.write {i : Nat} {s : Slot} {d c c' : D} {path : List Nat} {p q : Addr} {f fc fc' : List Addr} {o : HO} (fo : Foc K B Hs H σ ρ i s d path c p q f fc) (slo : Sl K B Hs1 H1 σ ρ1) (hF : ∃ F, FeetOk K B Hs1 H1 σ ρ1 F ∧ (∀ j, ∀ a ∈ f, a ∉ F j) ∧ ∀ j, ∀ a ∈ fc', a ∉ F j) (es : Same Hs Hs1)
    (st : ∀ a ∈ f, (∀ o, H a = some o → H1 a = some o) ∧ Hs1 a = none) (hq : q ∈ fc) (t : Tre K B.pin Hs1 (L2.upd H1 q o) (.ref q) (bx c') fc') (nd : fc'.Nodup) (dj : ∀ a ∈ fc', a ∈ fc ∨ (a ∉ f ∧ B.nw a)) :
    Sl K B Hs1 (L2.upd H1 q o) σ (ρ1.set i (s.putT (setIn d path c'))) := by
  obtain ⟨F, fe, n1, n2⟩ := hF
  have qf := fo.inF q hq
  obtain ⟨sl2, fe2⟩ := slo.scratch (o := o) fe (fun j => n1 j q qf) (st q qf).2 (fo.may q qf) fun ⟨xs, t⟩ => by
    obtain ⟨⟨o', e', n'⟩, _⟩ := fo.th q qf
    exact n' xs (Option.some.inj (((st q qf).1 o' e').symm.trans t))
  exact fo.back Hs1 _ ρ1 c' fc' sl2 ⟨F, fe2, n1, n2⟩ es (fun a m m2 => ⟨fun u e => by rw [L2.upd_ne (fun z => m2 (by rw [z]; exact hq))]; exact (st a m).1 u e, (st a m).2⟩) t nd dj
/-- an own list's items as they stand when only its own object is written -/
theorem TreA.but {P : Pin} {vs : List V} {ds : List D} {g : List Addr} {q : Addr} {o : HO} (t : TreA K P Hs H vs ds g) (es : Same Hs Hs1) (st : ∀ a ∈ g, (∀ o, H a = some o → H1 a = some o) ∧ Hs1 a = none) (nq : q ∉ g) : TreA K P Hs1 (L2.upd H1 q o) vs ds g :=
  t.mono es (fun _ _ z => z) (fun a m u e => by rw [L2.upd_ne (fun z => nq (by rw [← z]; exact m))]; exact (st a m).1 u e) fun a m _ => (st a m).2
theorem TreA.snoc {P : Pin} {v : V} {d : D} : ∀ {vs : List V} {ds : List D} {g : List Addr}, TreA K P Hs H vs ds g → Rep K Hs v d → TreA K P Hs H (vs ++ [v]) (ds ++ [d]) g
  | _, _, _, .nil, r => TreA.cons (f := []) (g := []) (.st r) .nil
  | _, _, _, .cons a b, r => .cons a (b.snoc r)
end
section
variable {X : Cx} {B : Bs} {W : WX} {a b c e : Expr} {es : List Expr} {pos : Pos} {h h2 : En → Option D} {i : Nat} {g : En → Option (List Nat)} {fa : EF}
/-- recv.append(e); the tree is hidden while e is told -/
def appR (i : Nat) (g : En → Option (List Nat)) (fa : EF) : SF := fun ρ => match ρ[i]? with
  | some s => (match s.tree, g ρ with
    | some d, some path => (match getIn d path with
      | some (.list ds) => (match fa (ρ.set i .un) with
        | .ok (.st z) ρ1 => if ds.length < 100000 then .nx (ρ1.set i (s.putT (setIn d path (.list (ds ++ [z]))))) else .bad
        | .er e ρ1 => .er e (ρ1.set i s)
        | _ => .bad)
      | _ => .bad)
    | _, _ => .bad)
  | none => .bad
theorem psd_appR {c : Expr} (h : PE X c (tBM X.K "list" rAppend (tRQ X.K B i g) (tCons (fun σ H Q => ∃ B', tD X.K X.mg B' W fa σ H Q) tNil))) (hs : swapsWith c none pos.line X.env = pure false := by rfl) : PSD X B W (.Expr c pos) (appR i g fa) :=
  PS.imp (ps_expr h hs) fun D' σ H ⟨Hs, ρ, sl, q⟩ => by
  unfold appR at q
  cases e0 : ρ[i]? with
  | none => rw [e0] at q; exact q.elim
  | some s =>
    rw [e0] at q
    dsimp only at q
    cases e1 : s.tree with
    | none => rw [e1] at q; exact q.elim
    | some d =>
      cases e2 : g ρ with
      | none => rw [e1, e2] at q; exact q.elim
      | some path =>
        rw [e1, e2] at q
        dsimp only at q
        cases e3 : getIn d path with
        | none => rw [e3] at q; exact q.elim
        | some c0 =>
          rw [e3] at q
          cases c0 <;> first | exact q.elim | skip
          rename_i ds
          dsimp only at q
          obtain ⟨p, qa, f, fc, fo⟩ := sl.foc e0 e1 e3
          obtain ⟨vs, gg, hq, nq, ef, tA⟩ := fo.t.lstOf
          refine ⟨Hs, ρ, s, d, path, p, sl, e0, e1, fo.hp, e2, fun v hv => ?_⟩
          rw [fo.hv] at hv
          cases hv
          refine ⟨.inl ⟨rfl, _, .inl (.inl hq)⟩, ?_⟩
          obtain ⟨B', slB, _, fin⟩ := fo.aside
          refine ⟨B', Hs, _, slB, ?_⟩
          cases ea : fa (ρ.set i .un) with
          | bad => rw [ea] at q; exact q.elim
          | er z ρ1 =>
            rw [ea] at q
            intro cls od Hs1 H1 sl1 es eo
            obtain ⟨slo, hF, st⟩ := fin Hs1 H1 ρ1 sl1 es
            exact q cls od σ Hs1 H1 (fo.back0 Hs1 H1 ρ1 slo hF es st) es eo
          | ok x ρ1 =>
            rw [ea] at q
            cases x <;> first | exact q.elim | skip
            rename_i z
            dsimp only at q
            by_cases hl : ds.length < 100000
            · rw [if_pos hl] at q
              intro Hs1 H1 sl1 es u hu
              obtain ⟨slo, ⟨F1, fe1, nf1⟩, st⟩ := fin Hs1 H1 ρ1 sl1 es
              have hq1 : H1 qa = some (.lst vs) := (st qa (fo.inF qa (by rw [ef]; exact List.mem_cons_self))).1 _ hq
              have nq1 : Hs1 qa = none := (st qa (fo.inF qa (by rw [ef]; exact List.mem_cons_self))).2
              have h2 : (100000 : Nat) ≤ sizeLine := by decide
              refine ⟨qa, vs, u, rfl, rfl, hq1, by rw [tA.len]; omega, ?_⟩
              have nodup := fo.nd
              rw [ef] at nodup
              have nqg : ∀ b ∈ gg, b ≠ qa := fun b m z => (List.nodup_cons.mp nodup).1 (by rw [← z]; exact m)
              have inG : ∀ b ∈ gg, b ∈ f := fun b m => fo.inF b (by rw [ef]; exact List.mem_cons_of_mem _ m)
              have tN : Tre X.K B.pin Hs1 (L2.upd H1 qa (.lst (vs ++ [u]))) (.ref qa) (bx (.list (ds ++ [z]))) (qa :: gg) :=
                .lst L2.upd_same nq1 (((tA.but es (fun a m => st a (inG a m)) fun m => nqg _ m rfl)).snoc hu)
              have sl2 := fo.write slo ⟨F1, fe1, nf1, fun j a m => nf1 j a (fo.inF a (by rw [ef]; exact m))⟩ es st (by rw [ef]; exact List.mem_cons_self) tN nodup fun a m => .inl (by rw [ef]; exact m)
              exact q σ Hs1 _ sl2 es
            · rw [if_neg hl] at q; exact q.elim
end
end DL

/-! DT4 -/
namespace DL
open PySem PySem.Spec PyProof.Rows L2

/-! ### what floats while something is evaluated -/
section
variable {K : Fg} {B : Bs} {Hs H Hs' H' : Hp} {σ : L2.St} {ρ ρ' : En} {F : Nat → List Addr}
structure Aside (K : Fg) (B B' : Bs) (Hs H : Hp) (σ : L2.St) (g : List Addr) : Prop where
  pin : B'.pin = B.pin
  out : ∀ Hs' H' ρ', Sl K B' Hs' H' σ ρ' → Sl K B Hs' H' σ ρ'
  feet : ∀ Hs' H' ρ' F', Sl K B' Hs' H' σ ρ' → FeetOk K B' Hs' H' σ ρ' F' → FeetOk K B Hs' H' σ ρ' F' ∧ ∀ j, ∀ a ∈ g, a ∉ F' j
  st : ∀ Hs' H' ρ', Sl K B' Hs' H' σ ρ' → ∀ a ∈ g, (∀ o, H a = some o → H' a = some o) ∧ Hs' a = none
  nw : ∀ a, B'.nw a → B.nw a ∧ a ∉ g
theorem Sl.aside {g : List Addr} (sl : Sl K B Hs H σ ρ) (fe : FeetOk K B Hs H σ ρ F) (th : ∀ a ∈ g, OwnAt H a ∧ Hs a = none) (nf : ∀ j, ∀ a ∈ g, a ∉ F j) : ∃ B', Sl K B' Hs H σ ρ ∧ Aside K B B' Hs H σ g := by
  refine ⟨_, (sl.inner fe).1, rfl, fun Hs' H' ρ' s' => (sl.outer fe s').1, fun Hs' H' ρ' F' s' f' => ⟨(sl.outer fe s').2 F' f', fun j a m => ?_⟩, fun Hs' H' ρ' s' a m => ?_, fun a z => ⟨(inB_may sl fe).1 z, fun m => ?_⟩⟩
  · obtain ⟨⟨o, e, nt⟩, n⟩ := th a m
    exact (s'.floats e nt n fun j => nf j a m).2.2 F' f' j
  · obtain ⟨⟨o, e, nt⟩, n⟩ := th a m
    obtain ⟨h1, h2, _⟩ := s'.floats e nt n fun j => nf j a m
    exact ⟨fun o' e' => by rw [e] at e'; cases e'; exact h1, h2⟩
  · obtain ⟨⟨o, e, nt⟩, n⟩ := th a m
    rcases z with z | ⟨j, s, b, _, z⟩
    · have z : H a = none := z
      rw [e] at z; cases z
    · exact nf j a m z
/-- nobody owns these -/
def Nobs (K : Fg) (B : Bs) (Hs H : Hp) (σ : L2.St) (ρ : En) (g : List Addr) : Prop := ∃ F, FeetOk K B Hs H σ ρ F ∧ ∀ j, ∀ a ∈ g, a ∉ F j
end

/-! ### new trees -/
def tT (K : Fg) (mg : MG) (B : Bs) (W : WX) (f : CF) : TE := fun σ H Q => ∃ Hs ρ, Sl K B Hs H σ ρ ∧
  OP K mg B W σ Hs (fun d ρ' Hs' H' => ∀ p f, TreP K B.pin Hs' H' p d f → (∀ a ∈ f, B.nw a) → Nobs K B Hs' H' σ ρ' f → Q (.ref p) H') (f ρ)
abbrev PT' (X : Cx) (B : Bs) (W : WX) (e : Expr) (f : CF) : Prop := PE X e (tT X.K X.mg B W f)
def tTl (K : Fg) (mg : MG) (B : Bs) (W : WX) (f : En → O (List D)) : TA := fun σ H Q => ∃ Hs ρ, Sl K B Hs H σ ρ ∧
  OP K mg B W σ Hs (fun ds ρ' Hs' H' => ∀ vs g, TreA K B.pin Hs' H' vs ds g → g.Nodup → (∀ a ∈ g, B.nw a) → Nobs K B Hs' H' σ ρ' g → Q vs H') (f ρ)
abbrev PTl (X : Cx) (B : Bs) (W : WX) (es : List Expr) (f : En → O (List D)) : Prop := PA X es (tTl X.K X.mg B W f)
section
variable {K : Fg} {P : Pin} {B : Bs} {Hs H : Hp}
theorem TreA.ofRep : ∀ {vs : List V} {ds : List D}, RepA K Hs vs ds → TreA K P Hs H vs ds []
  | _, _, .nil => .nil
  | _, _, .cons a b => TreA.cons (f := []) (g := []) (.st a) (TreA.ofRep b)
theorem TreK.ofRep : ∀ {vs : List (Key × V)} {ds : List (D × D)}, RepK K Hs vs ds → TreK K P Hs H vs ds []
  | _, _, .nil => .nil
  | _, _, .cons a b => TreK.cons (f := []) (g := []) (.st a) (TreK.ofRep b)
theorem TreT.ofRep : ∀ {vs : List (List Key × V)} {ds : List (D × D)}, RepT K Hs vs ds → TreT K P Hs H vs ds []
  | _, _, .nil => .nil
  | _, _, .cons a b => TreT.cons (f := []) (g := []) (.st a) (TreT.ofRep b)
theorem Cont.tree {p : Addr} {d : D} (c : Cont K Hs H p d) (n : Hs p = none) : TreP K P Hs H p d [p] := by
  refine ⟨?_, List.mem_singleton_self p, by simp⟩
  cases d with
  | list ds => obtain ⟨vs, h, r⟩ := c; exact .lst h n (TreA.ofRep r)
  | dict kvs =>
    rcases c with ⟨ks, h, r⟩ | ⟨ks, es, rfl, h, r⟩
    · exact .dK h n (TreK.ofRep r)
    · exact .dT h n (TreT.ofRep r)
  | _ => exact c.elim
theorem Tre.grow {v : V} {d : D} {f : List Addr} {Hs' H' : Hp} (t : Tre K P Hs H v d f) (g : Grow Hs H Hs' H') : Tre K P Hs' H' v d f := t.mono g.s (fun _ _ z => z) (fun a _ o e => g.h _ _ e) fun a m n => by
  rcases g.new a with q | q | q
  · exact q
  · exact absurd n q
  · exact ((t.there a m).1.nofree q).elim
theorem TreA.grow {v : List V} {d : List D} {f : List Addr} {Hs' H' : Hp} (t : TreA K P Hs H v d f) (g : Grow Hs H Hs' H') : TreA K P Hs' H' v d f := t.mono g.s (fun _ _ z => z) (fun a _ o e => g.h _ _ e) fun a m n => by
  rcases g.new a with q | q | q
  · exact q
  · exact absurd n q
  · exact ((t.there a m).1.nofree q).elim
theorem Nobs.grow {σ : L2.St} {ρ : En} {g : List Addr} {Hs' H' : Hp} (n : Nobs K B Hs H σ ρ g) (sl : Sl K B Hs H σ ρ) (gr : Grow Hs H Hs' H') : Nobs K B Hs' H' σ ρ g := by
  obtain ⟨F, h, q⟩ := n
  exact ⟨F, h.grow sl gr, q⟩
end
def nilT : En → O (List D) := fun ρ => .ok [] ρ
/-- a new object, then the rest -/
def consT (fa : CF) (fr : En → O (List D)) : En → O (List D) := fun ρ => (fa ρ).bind fun d ρ1 => (fr ρ1).bind fun ds ρ2 => .ok (bx d :: ds) ρ2
def lstT (f : En → O (List D)) : CF := fun ρ => (f ρ).bind fun ds ρ1 => if short ds = true then .ok (.list ds) ρ1 else .bad
section
variable {X : Cx} {B : Bs} {W : WX} {a b c e : Expr} {es : List Expr} {pos pos' : Pos} {cf : CF} {fr : En → O (List D)} {x : Str}
theorem pt_c (h : PC' X B W e cf) : PT' X B W e cf := PE.imp h fun σ H Q ⟨Hs, ρ, sl, q⟩ => by
  refine ⟨Hs, ρ, sl, OP.imp q fun d ρ1 Hs1 H1 _ sl1 e1 q1 p n1 n2 n3 cn => ?_⟩
  obtain ⟨F, fe, nF⟩ := n3
  exact q1 p [p] (cn.tree n1) (fun a m => by rw [List.mem_singleton] at m; subst m; exact n2) ⟨F, fe, fun j a m => by rw [List.mem_singleton] at m; subst m; exact nF j⟩
theorem pta_nil : PTl X B W [] nilT := PA.imp pa_nil fun σ H Q ⟨Hs, ρ, sl, q⟩ => by
  obtain ⟨F, fe⟩ := sl.feet
  exact q Hs H sl (.refl _) [] [] .nil List.nodup_nil (fun a m => by cases m) ⟨F, fe, fun j a m => by cases m⟩
theorem pta_cons (ha : PT' X B W e cf) (hr : ∀ B, PTl X B W es fr) (hs : starEach (e :: es) X.env = (false, eval e X.env) :: starEach es X.env := by rfl) : PTl X B W (e :: es) (consT cf fr) := by
  refine PA.imp (pa_cons (t := fun σ H Q => ∃ B, tTl X.K X.mg B W fr σ H Q) ha ⟨fun pos pins s σ H Q I ⟨B', q⟩ => (hr B').run pos pins s σ H Q I q⟩ hs) fun σ H Q ⟨Hs, ρ, sl, q⟩ => ?_
  refine ⟨Hs, ρ, sl, OP.imp (OP.bind q) fun d ρ1 Hs1 H1 _ sl1 e1 q1 p f tp nw ⟨F, fe, nF⟩ => ?_⟩
  obtain ⟨B', slB, A⟩ := sl1.aside fe (fun a m => tp.1.there a m) nF
  refine ⟨B', Hs1, ρ1, slB, ?_⟩
  cases er : fr ρ1 with
  | bad => rw [er] at q1; exact q1.elim
  | er z ρ2 => rw [er] at q1; exact fun cls od Hs2 H2 sl2 es2 eo => q1 cls od Hs2 H2 (A.out Hs2 H2 ρ2 sl2) es2 eo
  | ok ds ρ2 =>
    rw [er] at q1
    intro Hs2 H2 sl2 es2 vs g tA nd nw2 ⟨F2, fe2, nF2⟩
    obtain ⟨fo, nf⟩ := A.feet Hs2 H2 ρ2 F2 sl2 fe2
    have st := A.st Hs2 H2 ρ2 sl2
    have t2 : Tre X.K B.pin Hs2 H2 (.ref p) (bx d) f := tp.1.mono es2 (fun _ _ z => z) (fun a m o e => (st a m).1 o e) fun a m _ => (st a m).2
    rw [A.pin] at tA
    refine q1 Hs2 H2 (A.out Hs2 H2 ρ2 sl2) es2 (.ref p :: vs) (f ++ g) (.cons t2 tA) (List.nodup_append.mpr ⟨tp.2.2, nd, fun x mx y my z => ?_⟩) (fun a m => ?_) ⟨F2, fo, fun j a m => ?_⟩
    · subst z
      exact (A.nw _ (nw2 _ my)).2 mx
    · rcases List.mem_append.mp m with m | m
      · exact nw a m
      · exact (A.nw a (nw2 a m)).1
    · rcases List.mem_append.mp m with m | m
      · exact nf j a m
      · exact nF2 j a m
theorem pt_lst (h : PTl X B W es fr) : PT' X B W (.List es pos) (lstT fr) := PE.imp (pe_lst h) fun σ H Q ⟨Hs, ρ, sl, q⟩ => by
  refine ⟨Hs, ρ, sl, OP.imp (OP.bind q) fun ds ρ1 Hs1 H1 _ sl1 e1 q1 vs g tA nd nw nb => ?_⟩
  by_cases c : short ds = true
  · rw [if_pos c] at q1
    refine ⟨short_ok c tA.len, fun p np => ?_⟩
    have gr : Grow Hs1 H1 Hs1 (upd H1 p (.lst vs)) := Grow.loose sl1.sub np
    obtain ⟨f1, f2, _⟩ := sl1.fresh np
    have ng : p ∉ g := fun m => by
      obtain ⟨⟨o, e, _⟩, _⟩ := tA.there p m
      rw [np] at e; cases e
    obtain ⟨F, fe, nF⟩ := nb
    have np' : ∀ j, p ∉ F j := fun j m => by
      cases e : ρ1[j]? with
      | none => rw [fe.out j e] at m; cases m
      | some s =>
        obtain ⟨y, ey⟩ := sl_var sl1 e
        obtain ⟨⟨u, z, _⟩, _⟩ := (fe.at_ j y s ey e).there (sl1.ok j y s ey e) p m
        rw [np] at z; cases z
    refine q1 _ _ (sl1.grow gr) (.refl _) p (p :: g) ⟨.lst upd_same f1 (tA.grow gr), List.mem_cons_self, List.nodup_cons.mpr ⟨ng, nd⟩⟩ (fun a m => ?_) ⟨F, fe.grow sl1 gr, fun j a m => ?_⟩
    · rcases List.mem_cons.mp m with rfl | m
      · exact f2
      · exact nw a m
    · rcases List.mem_cons.mp m with rfl | m
      · exact np' j
      · exact nF j a m
  · rw [if_neg c] at q1; exact q1.elim
/-- x = a new tree -/
def asgTr (i : Nat) (f : CF) : SF := fun ρ => (f ρ).then fun d ρ1 => .nx (ρ1.set i (.tre d))
theorem psd_setT {i : Nat} (hN : X.N.Nodup) (hi : X.N[i]? = some x) (hx : Loc X.env.scope x) (he : PT' X B W e cf) (hs : swapsWith e (some (.Name x pos')) pos.line X.env = pure false := by rfl)
    (hf : X.fn x = true ∨ X.env.scope.names.lookup x = some .local := by first | exact .inl rfl | exact .inr rfl | assumption) : PSD X B W (.Assign [.Name x pos'] e pos) (asgTr i cf) :=
  PS.imp (ps_set hN hi hx he hs hf) fun D' σ H ⟨Hs, ρ, sl, q⟩ => by
  refine ⟨Hs, ρ, sl, OP.imp (OP.stm q) fun d ρ1 Hs1 H1 _ sl1 e1 q1 p f tp nw ⟨F, fe, nF⟩ => ?_⟩
  exact q1 _ Hs1 H1 (sl1.store (s := .tre d) ⟨p, f, rfl, tp, nw⟩ fun _ => ⟨f, ⟨p, rfl, tp, nw⟩, F, fe, fun j _ a m => nF j a m⟩) (.refl _)
end

/-! ### trees become data that stay -/
mutual
def strip : D → D
  | .dict [(.bool true, .list ds)] => .list (stripA ds)
  | .dict [(.bool true, .dict kvs)] => .dict (stripK kvs)
  | d => d
def stripA : List D → List D
  | [] => []
  | d :: ds => strip d :: stripA ds
def stripK : List (D × D) → List (D × D)
  | [] => []
  | (k, d) :: ds => (k, strip d) :: stripK ds
end
end DL

/-! DT5 -/
namespace DL
open PySem PySem.Spec PyProof.Rows L2

section
variable {K : Fg} {P : Pin} {B : Bs} {Hs H Hs' : Hp} {σ : L2.St} {ρ : En} {F : Nat → List Addr}
theorem strip_rep {v : V} {d : D} (r : Rep K H v d) : strip d = d := by
  unfold strip
  split
  · exact (r.nobx).elim
  · exact (r.nobx).elim
  · rfl
mutual
theorem Tre.frozen (e : Same Hs Hs') : ∀ {v : V} {d : D} {f : List Addr}, Tre K P Hs H v d f → (∀ a ∈ f, ∀ o, H a = some o → Hs' a = some o) → Rep K Hs' v (strip d)
  | _, _, _, .st r, _ => by rw [strip_rep r]; exact r.mono e
  | _, _, _, .lst h n r, k => by
    unfold bx strip
    exact .lst (k _ List.mem_cons_self _ h) (TreA.frozen e r fun a m => k a (List.mem_cons_of_mem _ m))
  | _, _, _, .dK h n r, k => by
    unfold bx strip
    exact .dK (.inl (k _ List.mem_cons_self _ h)) (TreK.frozen e r fun a m => k a (List.mem_cons_of_mem _ m))
  | _, _, _, .dT h n r, k => by
    unfold bx strip tagT stripK strip
    exact .dT (.inl (k _ List.mem_cons_self _ h)) (TreT.frozen e r fun a m => k a (List.mem_cons_of_mem _ m))
  | _, _, _, .ins h h2 n n2 r, k => by
    unfold bx strip stripK strip
    exact .ins (k _ List.mem_cons_self _ h) (k _ (List.mem_cons_of_mem _ List.mem_cons_self) _ h2) (TreI.frozen e r fun a m => k a (List.mem_cons_of_mem _ (List.mem_cons_of_mem _ m)))
theorem TreA.frozen (e : Same Hs Hs') : ∀ {v : List V} {d : List D} {f : List Addr}, TreA K P Hs H v d f → (∀ a ∈ f, ∀ o, H a = some o → Hs' a = some o) → RepA K Hs' v (stripA d)
  | _, _, _, .nil, _ => .nil
  | _, _, _, .cons a b, k => .cons (Tre.frozen e a fun c m => k c (List.mem_append_left _ m)) (TreA.frozen e b fun c m => k c (List.mem_append_right _ m))
theorem TreK.frozen (e : Same Hs Hs') : ∀ {v : List (Key × V)} {d : List (D × D)} {f : List Addr}, TreK K P Hs H v d f → (∀ a ∈ f, ∀ o, H a = some o → Hs' a = some o) → RepK K Hs' v (stripK d)
  | _, _, _, .nil, _ => .nil
  | _, _, _, .cons a b, k => .cons (Tre.frozen e a fun c m => k c (List.mem_append_left _ m)) (TreK.frozen e b fun c m => k c (List.mem_append_right _ m))
theorem TreT.frozen (e : Same Hs Hs') : ∀ {v : List (List Key × V)} {d : List (D × D)} {f : List Addr}, TreT K P Hs H v d f → (∀ a ∈ f, ∀ o, H a = some o → Hs' a = some o) → RepT K Hs' v (stripK d)
  | _, _, _, .nil, _ => .nil
  | _, _, _, .cons a b, k => .cons (Tre.frozen e a fun c m => k c (List.mem_append_left _ m)) (TreT.frozen e b fun c m => k c (List.mem_append_right _ m))
theorem TreI.frozen (e : Same Hs Hs') : ∀ {v : List (Str × V)} {d : List (D × D)} {f : List Addr}, TreI K P Hs H v d f → (∀ a ∈ f, ∀ o, H a = some o → Hs' a = some o) → RepI K Hs' v (stripK d)
  | _, _, _, .nil, _ => .nil
  | _, _, _, .cons a b, k => .cons (Tre.frozen e a fun c m => k c (List.mem_append_left _ m)) (TreI.frozen e b fun c m => k c (List.mem_append_right _ m))
end
/-- the stable heap with these as they stand -/
def frzH (Hs H : Hp) (g : List Addr) : Hp := fun a => if a ∈ g then H a else Hs a
theorem frz_same {g : List Addr} (n : ∀ a ∈ g, Hs a = none) : Same Hs (frzH Hs H g) := fun b o e => by
  unfold frzH
  by_cases h : b ∈ g
  · rw [n b h] at e; cases e
  · rw [if_neg h]; exact e
theorem frz_in {g : List Addr} {a : Addr} (h : a ∈ g) : frzH Hs H g a = H a := if_pos h
/-- the stable heap takes objects that nobody owns -/
theorem Sl.takes0 {g : List Addr} (sl : Sl K B Hs H σ ρ) (th : ∀ a ∈ g, Hs a = none) (z : ∀ a ∈ g, B.nw a) (h : FeetOk K B Hs H σ ρ F) (nF : ∀ j, ∀ a ∈ g, a ∉ F j) : Sl K B (frzH Hs H g) H σ ρ ∧ FeetOk K B (frzH Hs H g) H σ ρ F := by
  have sm : Same Hs (frzH Hs H g) := frz_same th
  have st : ∀ i, ∀ c ∈ F i, Hs c = none → frzH Hs H g c = none := fun i c hc q => by
    unfold frzH
    rw [if_neg fun m => nF i c m hc]
    exact q
  have fe : FeetOk K B (frzH Hs H g) H σ ρ F := ⟨fun i x s a b => (h.at_ i x s a b).mono sm (fun _ _ _ e => e) (st i), h.out, h.dis⟩
  exact ⟨{
    len := sl.len
    ok := fun i x s a b => (sl.ok i x s a b).stays (h.at_ i x s a b) sm (fun _ _ _ e => e) (st i)
    sub := fun b u h => by
      unfold frzH at h
      by_cases hb : b ∈ g
      · rw [if_pos hb] at h; exact h
      · rw [if_neg hb] at h; exact sl.sub _ _ h
    base := sl.base.trans sm
    new := fun a => by
      by_cases hb : a ∈ g
      · exact .inr (.inr (.inl (z a hb)))
      · unfold frzH
        rw [if_neg hb]
        exact sl.new a
    keep := sl.keep
    there := sl.there
    feet := ⟨F, fe⟩ }, fe⟩
theorem Sl.takes {g : List Addr} (sl : Sl K B Hs H σ ρ) (th : ∀ a ∈ g, Hs a = none) (z : ∀ a ∈ g, B.nw a) (nb : Nobs K B Hs H σ ρ g) : Sl K B (frzH Hs H g) H σ ρ := by
  obtain ⟨F, h, nF⟩ := nb
  exact (sl.takes0 th z h nF).1
theorem Sl.freezeT {i : Nat} {d : D} (sl : Sl K B Hs H σ ρ) (h : ρ[i]? = some (.tre d)) : ∃ p Hs', σ[i]? = some (some (.ref p)) ∧ Same Hs Hs' ∧ Sl K B Hs' H σ (ρ.set i (.val (strip (bx d)))) ∧ Rep K Hs' (.ref p) (strip (bx d)) := by
  obtain ⟨F, fe⟩ := sl.feet
  obtain ⟨x, ex⟩ := sl_var sl h
  obtain ⟨p, rfl, t, nw⟩ := fe.at_ i x _ ex h
  have th : ∀ a ∈ F i, Hs a = none := fun a m => (t.1.there a m).2
  have nb : Nobs K B Hs H σ (ρ.set i .un) (F i) := ⟨_, fe.reslot (i := i) (s := .un) rfl, fun j a m z => by
    by_cases e : i = j
    · rw [if_pos e] at z; cases z
    · rw [if_neg e] at z
      exact fe.dis i j e a m z⟩
  have s2 := (sl.reslot (i := i) (s := .un) (fun _ _ => trivial) rfl).takes th nw nb
  have r : Rep K (frzH Hs H (F i)) (.ref p) (strip (bx d)) := t.1.frozen (frz_same th) fun a m o e => by rw [frz_in m]; exact e
  have s3 := s2.reslot (i := i) (s := .val (strip (bx d))) (fun y hy => by
    rw [ex] at hy; cases hy
    exact ⟨_, rfl, r⟩) rfl
  rw [List.set_set] at s3
  exact ⟨p, _, ex, frz_same th, s3, r⟩
end
/-- a tree handed out for good -/
def frzT (i : Nat) : EF := fun ρ => match ρ[i]? with
  | some (.tre d) => .ok (.st (strip (bx d))) (ρ.set i (.val (strip (bx d))))
  | _ => .bad
/-- recv[idx], its item a tree: data that stay from now on -/
def frzIx (i : Nat) (g : En → Option (List Nat)) (h : En → Option D) : EF := fun ρ => match ρ[i]?, g ρ, h ρ with
  | some (.tre d), some path, some (.int k) => (match getIn d path with
    | some (.list ds) => (match ixN ds.length k with
      | some j => (match ds[j]? with
        | some x => .ok (.st (strip x)) (ρ.set i (.tre (setIn d path (.list (ds.set j (strip x))))))
        | none => .bad)
      | none => .bad)
    | _ => .bad)
  | _, _, _ => .bad
/-- recv[idx] = e -/
def setR (i : Nat) (g : En → Option (List Nat)) (h : En → Option D) (fa : EF) : SF := fun ρ => (fa ρ).then fun x ρ1 => match x, ρ1[i]?, g ρ1, h ρ1 with
  | .st z, some s, some path, some (.int k) => (match s.tree with
    | some d => (match getIn d path with
      | some (.list ds) => (match ixN ds.length k with
        | some j => .nx (ρ1.set i (s.putT (setIn d path (.list (ds.set j z)))))
        | none => .bad)
      | _ => .bad)
    | none => .bad)
  | _, _, _, _ => .bad
section
variable {X : Cx} {B : Bs} {W : WX} {a b c e : Expr} {st : Stmt} {es : List Expr} {pos : Pos} {h h2 : En → Option D} {i : Nat} {g : En → Option (List Nat)} {fa : EF}
theorem pdA (h : ∀ B, PD X B W e fa) : PE X e (fun σ H Q => ∃ B', tD X.K X.mg B' W fa σ H Q) := ⟨fun pins s σ H Q I ⟨B', q⟩ => (h B').run pins s σ H Q I q⟩
theorem pd_fT {i : Nat} (he : PE X e (tVar i)) : PD X B W e (frzT i) := PE.imp he fun σ H Q ⟨Hs, ρ, sl, q⟩ => by
  unfold frzT at q
  cases es : ρ[i]? with
  | none => rw [es] at q; exact q.elim
  | some s =>
    rw [es] at q
    cases s <;> first | exact q.elim | skip
    rename_i d
    obtain ⟨p, Hs', ep, sm, sl', r⟩ := sl.freezeT es
    exact ⟨_, ep, q Hs' H sl' sm _ r⟩
theorem ix_len {n : Nat} {k : Int} {j : Nat} (h : ixN n k = some j) : j < n := by
  unfold ixN at h
  split at h
  · split at h <;> first | (cases h; omega) | cases h
  · split at h <;> first | (cases h; omega) | cases h
theorem psd_setR (hh : PS X st (tAsg (tD X.K X.mg B W fa) (gSub (tRQ X.K B i g) (tQ X.K B h) rSetL))) : PSD X B W st (setR i g h fa) :=
  PS.imp hh fun D' σ H ⟨Hs, ρ, sl, q⟩ => by
  refine ⟨Hs, ρ, sl, OP.imp (OP.stm q) fun x ρ1 Hs1 H1 _ sl1 e1 q1 u hu => ?_⟩
  cases x <;> first | exact q1.elim | skip
  rename_i z ez
  clear ez
  cases e0 : ρ1[i]? with
  | none => rw [e0] at q1; exact q1.elim
  | some s =>
    cases e2 : g ρ1 with
    | none => rw [e0, e2] at q1; exact q1.elim
    | some path =>
      cases e3 : h ρ1 with
      | none => rw [e0, e2, e3] at q1; exact q1.elim
      | some y =>
        rw [e0, e2, e3] at q1
        cases y <;> first | exact q1.elim | skip
        rename_i k
        dsimp only at q1
        cases e4 : s.tree with
        | none => rw [e4] at q1; exact q1.elim
        | some d =>
          rw [e4] at q1
          dsimp only at q1
          cases e5 : getIn d path with
          | none => rw [e5] at q1; exact q1.elim
          | some c0 =>
            rw [e5] at q1
            cases c0 <;> first | exact q1.elim | skip
            rename_i ds
            dsimp only at q1
            cases e6 : ixN ds.length k with
            | none => rw [e6] at q1; exact q1.elim
            | some j =>
              rw [e6] at q1
              obtain ⟨p, qa, f, fc, fo⟩ := sl1.foc e0 e4 e5
              obtain ⟨vs, gg, hq, nq, ef, tA⟩ := fo.t.lstOf
              refine ⟨Hs1, ρ1, s, d, path, p, sl1, e0, e4, fo.hp, e2, fun v hv => ?_⟩
              rw [fo.hv] at hv
              cases hv
              refine ⟨Hs1, ρ1, _, sl1, e3, fun w hw => ⟨qa, vs, k, j, rfl, Shal.int (H := Hs1) (.inl hw), hq, by rw [tA.len]; exact e6, ?_⟩⟩
              have hj : ds[j]? = some (ds[j]'(ix_len e6)) := List.getElem?_eq_getElem (ix_len e6)
              obtain ⟨v0, f1, fk, f2, hv0, eg, tk, cl⟩ := tA.at_ hj
              have nodup := fo.nd
              rw [ef, eg] at nodup
              have inG : ∀ a, a ∈ f1 ++ f2 → a ∈ fc ∧ a ≠ qa := fun a m => by
                rw [ef, eg]
                have m' : a ∈ f1 ++ (fk ++ f2) := by
                  rcases List.mem_append.mp m with m | m
                  · exact List.mem_append_left _ m
                  · exact List.mem_append_right _ (List.mem_append_right _ m)
                exact ⟨List.mem_cons_of_mem _ m', fun z => (List.nodup_cons.mp nodup).1 (by rw [← z]; exact m')⟩
              have st0 : ∀ a ∈ f, (∀ o, H1 a = some o → H1 a = some o) ∧ Hs1 a = none := fun a m => ⟨fun o e => e, (fo.th a m).2⟩
              have tN : Tre X.K B.pin Hs1 (L2.upd H1 qa (.lst (vs.set j u))) (.ref qa) (bx (.list (ds.set j z))) (qa :: (f1 ++ ([] ++ f2))) :=
                .lst L2.upd_same nq (cl Hs1 _ (.refl _) (fun a m => ⟨fun o e => by rw [L2.upd_ne (inG a m).2]; exact e, (fo.th a (fo.inF a (inG a m).1)).2⟩) u z [] (.st hu))
              rw [List.nil_append] at tN
              obtain ⟨F, fe, nF⟩ := fo.feet
              have sl2 := fo.write fo.hid ⟨F, fe, nF, fun jj a m => ?_⟩ (.refl _) st0 (by rw [ef]; exact List.mem_cons_self) tN ?_ fun a m => ?_
              · rw [List.set_set] at sl2
                exact q1 σ Hs1 _ sl2 (.refl _)
              · rcases List.mem_cons.mp m with rfl | m
                · exact nF jj _ (fo.inF _ (by rw [ef]; exact List.mem_cons_self))
                · exact nF jj a (fo.inF a (inG a m).1)
              · obtain ⟨n0, n1⟩ := List.nodup_cons.mp nodup
                obtain ⟨n2, n3, n4⟩ := List.nodup_append.mp n1
                obtain ⟨_, n5, _⟩ := List.nodup_append.mp n3
                exact List.nodup_cons.mpr ⟨fun m => (inG qa m).2 rfl, List.nodup_append.mpr ⟨n2, n5, fun x mx y my => n4 x mx y (List.mem_append_right _ my)⟩⟩
              · rcases List.mem_cons.mp m with rfl | m
                · exact .inl (by rw [ef]; exact List.mem_cons_self)
                · exact .inl (inG a m).1
theorem pd_frzIx (ha : PRQ X B a i g) (hb : PQ X B b h) (hs : PlainIx b) : PD X B W (.Subscript a b pos) (frzIx i g h) :=
  PE.imp (pe_ix ix_list ha hb hs) fun σ H Q ⟨Hs, ρ, sl, q⟩ => by
  unfold frzIx at q
  cases e0 : ρ[i]? with
  | none => rw [e0] at q; exact q.elim
  | some s =>
    cases e2 : g ρ with
    | none => rw [e0, e2] at q; cases s <;> exact q.elim
    | some path =>
      cases e3 : h ρ with
      | none => rw [e0, e2, e3] at q; cases s <;> exact q.elim
      | some y =>
        rw [e0, e2, e3] at q
        cases s <;> first | exact q.elim | skip
        rename_i d
        cases y <;> first | exact q.elim | skip
        rename_i k
        dsimp only at q
        cases e5 : getIn d path with
        | none => rw [e5] at q; exact q.elim
        | some c0 =>
          rw [e5] at q
          cases c0 <;> first | exact q.elim | skip
          rename_i ds
          dsimp only at q
          cases e6 : ixN ds.length k with
          | none => rw [e6] at q; exact q.elim
          | some j =>
            rw [e6] at q
            dsimp only at q
            cases e7 : ds[j]? with
            | none => rw [e7] at q; exact q.elim
            | some x =>
              rw [e7] at q
              dsimp only at q
              obtain ⟨p, qa, f, fc, fo⟩ := sl.foc e0 rfl e5
              obtain ⟨vs, gg, hq, nq, ef, tA⟩ := fo.t.lstOf
              obtain ⟨v0, f1, fk, f2, hv0, eg, tk, cl⟩ := tA.at_ e7
              have nodup := fo.nd
              rw [ef, eg] at nodup
              have inG : ∀ a, a ∈ f1 ++ f2 → a ∈ fc ∧ a ≠ qa ∧ a ∉ fk := fun a m => by
                rw [ef, eg]
                obtain ⟨n0, n1⟩ := List.nodup_cons.mp nodup
                obtain ⟨n2, n3, n4⟩ := List.nodup_append.mp n1
                obtain ⟨n5, n6, n7⟩ := List.nodup_append.mp n3
                rcases List.mem_append.mp m with m | m
                · exact ⟨List.mem_cons_of_mem _ (List.mem_append_left _ m), fun z => n0 (by rw [← z]; exact List.mem_append_left _ m), fun z => n4 a m a (List.mem_append_left _ z) rfl⟩
                · exact ⟨List.mem_cons_of_mem _ (List.mem_append_right _ (List.mem_append_right _ m)), fun z => n0 (by rw [← z]; exact List.mem_append_right _ (List.mem_append_right _ m)), fun z => n7 a z a m rfl⟩
              have inK : ∀ a, a ∈ fk → a ∈ fc ∧ a ≠ qa := fun a m => by
                rw [ef, eg]
                have m' : a ∈ f1 ++ (fk ++ f2) := List.mem_append_right _ (List.mem_append_left _ m)
                exact ⟨List.mem_cons_of_mem _ m', fun z => (List.nodup_cons.mp nodup).1 (by rw [← z]; exact m')⟩
              refine ⟨Hs, ρ, _, d, path, p, sl, e0, rfl, fo.hp, e2, fun v hv => ?_⟩
              rw [fo.hv] at hv
              cases hv
              refine ⟨Hs, ρ, _, sl, e3, fun w hw => ⟨qa, vs, k, v0, rfl, Shal.int (H := Hs) (.inl hw), .inl (.inl hq), ?_, ?_⟩⟩
              · unfold L2.atI
                rw [tA.len, e6, Option.bind_some]
                exact hv0
              · -- the item stays from now on
                have th : ∀ a ∈ fk, Hs a = none := fun a m => (fo.th a (fo.inF a (inK a m).1)).2
                have sm : Same Hs (frzH Hs H fk) := frz_same th
                have nwk : ∀ a ∈ fk, B.nw a := fun a m => fo.mayT d rfl a (fo.inF a (inK a m).1)
                obtain ⟨F, fe, nF⟩ := fo.feet
                obtain ⟨sl2, fe2⟩ := fo.hid.takes0 th nwk fe fun jj a m => nF jj a (fo.inF a (inK a m).1)
                have out : ∀ a, a ∉ fk → Hs a = none → frzH Hs H fk a = none := fun a m n => by
                  unfold frzH
                  rw [if_neg m]; exact n
                have rx := tk.frozen sm fun a m o e => by rw [frz_in m]; exact e
                have qk : qa ∉ fk := fun m => (inK qa m).2 rfl
                have tA' := cl (frzH Hs H fk) H sm (fun a m => ⟨fun o e => e, out a (inG a m).2.2 (fo.th a (fo.inF a (inG a m).1)).2⟩) v0 (strip x) [] (.st rx)
                rw [show vs.set j v0 = vs from by
                  refine List.ext_getElem? fun n => ?_
                  by_cases hi : j = n
                  · subst hi
                    have hl := (List.getElem?_eq_some_iff.mp hv0).1
                    rw [List.getElem?_set_self hl, hv0]
                  · rw [List.getElem?_set_ne hi], List.nil_append] at tA'
                have tN : Tre X.K B.pin (frzH Hs H fk) H (.ref qa) (bx (.list (ds.set j (strip x)))) (qa :: (f1 ++ f2)) := .lst hq (out qa qk nq) tA'
                have sl3 := fo.back (frzH Hs H fk) H _ (.list (ds.set j (strip x))) _ sl2 ⟨F, fe2, nF, fun jj a m => ?_⟩ sm (fun a m m2 => ⟨fun o e => e, out a (fun z => m2 (inK a z).1) (fo.th a m).2⟩) tN ?_ fun a m => ?_
                · rw [List.set_set] at sl3
                  exact q (frzH Hs H fk) H sl3 sm v0 rx
                · rcases List.mem_cons.mp m with rfl | m
                  · exact nF jj _ (fo.inF _ (by rw [ef]; exact List.mem_cons_self))
                  · exact nF jj a (fo.inF a (inG a m).1)
                · obtain ⟨n0, n1⟩ := List.nodup_cons.mp nodup
                  obtain ⟨n2, n3, n4⟩ := List.nodup_append.mp n1
                  obtain ⟨_, n5, _⟩ := List.nodup_append.mp n3
                  exact List.nodup_cons.mpr ⟨fun m => (inG qa m).2.1 rfl, List.nodup_append.mpr ⟨n2, n5, fun x mx y my => n4 x mx y (List.mem_append_right _ my)⟩⟩
                · rcases List.mem_cons.mp m with rfl | m
                  · exact .inl (by rw [ef]; exact List.mem_cons_self)
                  · exact .inl (inG a m).1
end
end DL

/-! DT6 -/
namespace DL
open PySem PySem.Spec PyProof.Rows L2

/-! ### comprehensions of new objects -/
def compLoopT (t : Tg) (vs : List Nat) (tt : BF) (te : CF) : List D → En → O (List D)
  | [], ρ => .ok [] ρ
  | d :: ds, ρ => match t.put d ρ with
    | none => .bad
    | some ρ1 => (noEr (tt ρ1)).bind fun b ρ2 => if b = true then (noEr (te ρ2)).bind fun z ρ3 => (compLoopT t vs tt te ds (wipeE ρ3 vs)).bind fun zs ρ4 => .ok (bx z :: zs) ρ4
      else compLoopT t vs tt te ds (wipeE ρ2 vs)
def compT (t : Tg) (vs : List Nat) (src : En → O (List D)) (tt : BF) (te : CF) : CF := fun ρ => (src ρ).bind fun ds ρ1 => (noEr (compLoopT t vs tt te ds (wipeE ρ1 vs))).bind fun zs ρ2 => if short zs = true then .ok (.list zs) ρ2 else .bad
def tTE (K : Fg) (mg : MG) (f : CF) : TE := fun σ H Q => ∃ B, tT K mg B W0 f σ H Q
section
variable {K : Fg} {B : Bs} {Hs H : Hp} {σ : L2.St} {ρ : En}
theorem Nobs.wiped {g : List Addr} (n : Nobs K B Hs H σ ρ g) : ∀ vs : List Nat, Nobs K B Hs H (wipe σ vs) (wipeE ρ vs) g
  | [] => n
  | v :: vs => by
    obtain ⟨F, h, q⟩ := n.wiped vs
    exact ⟨_, h.forget1, fun j a m z => by
      by_cases e : v = j
      · rw [if_pos e] at z; cases z
      · rw [if_neg e] at z; exact q j a m z⟩
theorem Sl.nobs_new {p : Addr} {g : List Addr} (sl : Sl K B Hs H σ ρ) (np : H p = none) (n : Nobs K B Hs H σ ρ g) : Nobs K B Hs H σ ρ (p :: g) := by
  obtain ⟨F, fe, nF⟩ := n
  refine ⟨F, fe, fun j a m => ?_⟩
  rcases List.mem_cons.mp m with rfl | m
  · intro m
    cases e : ρ[j]? with
    | none => rw [fe.out j e] at m; cases m
    | some s =>
      obtain ⟨y, ey⟩ := sl_var sl e
      obtain ⟨⟨u, z, _⟩, _⟩ := (fe.at_ j y s ey e).there (sl.ok j y s ey e) a m
      rw [np] at z; cases z
  · exact nF j a m
theorem TreA.snocT {P : Pin} {v : V} {d : D} {f : List Addr} : ∀ {vs : List V} {ds : List D} {g : List Addr}, TreA K P Hs H vs ds g → Tre K P Hs H v d f → TreA K P Hs H (vs ++ [v]) (ds ++ [d]) (g ++ f)
  | _, _, _, .nil, t => by
    have := TreA.cons t (TreA.nil (K := K) (P := P) (Hs := Hs) (H := H))
    rwa [List.append_nil] at this
  | _, _, _, .cons (f := f1) (g := g1) a b, t => by
    rw [List.append_assoc]
    exact TreA.cons (f := f1) (g := g1 ++ f) a (b.snocT t)
end
section
variable {X : Cx} {B : Bs} {W : WX} {elt tg iter : Expr} {ifs : List Expr} {scope : Scope} {own : List (Str × Nat)} {pos : Pos} {t : Tg} {src : En → O (List D)} {tt : BF} {fe : CF}
theorem comp_readT {σ : L2.St} {H : Hp} {Q : VK} {vs : List Nat} (hv : ∀ i ∈ t.at, i ∈ vs) (h : tT X.K X.mg B W (compT t vs src tt fe) σ H Q) : tLc (tID X.K X.mg B W src) (tgA X.K t) (tTA X.K X.mg tt) (tTE X.K X.mg fe) vs σ H Q := by
  obtain ⟨Hs, ρ, sl, q⟩ := h
  refine ⟨Hs, ρ, sl, OP.imp (OP.bind q) fun ds ρ1 Hs1 H1 _ sl1 e1 q1 J w Dl nD => ?_⟩
  have q1 := q1
  obtain ⟨f1, f2, f3⟩ := sl1.fresh nD
  let Fin : List D → O (List D) → Prop := fun acc o => match o with
    | .ok zs ρ2 => (acc ++ zs).length ≤ 100000 ∧ ∀ Hs' H' p f, Sl X.K B Hs' H' σ ρ2 → Same Hs1 Hs' → TreP X.K B.pin Hs' H' p (.list (acc ++ zs)) f → (∀ a ∈ f, B.nw a) → Nobs X.K B Hs' H' σ ρ2 f → Q (.ref p) H'
    | _ => False
  have fin0 : Fin [] (compLoopT t vs tt fe ds (wipeE ρ1 vs)) := by
    cases ec : compLoopT t vs tt fe ds (wipeE ρ1 vs) with
    | er e r => rw [ec] at q1; exact q1.elim
    | bad => rw [ec] at q1; exact q1.elim
    | ok zs ρ2 =>
      rw [ec] at q1
      unfold DL.noEr O.bind at q1
      dsimp only at q1
      by_cases c : short zs = true
      · rw [if_pos c] at q1
        exact ⟨of_decide_eq_true c, fun Hs' H' p f a b c d e => q1 Hs' H' a b p f c d e⟩
      · rw [if_neg c] at q1; exact q1.elim
  have g0 : Grow Hs1 H1 Hs1 (upd H1 Dl (.lst [])) := Grow.loose sl1.sub nD
  have nb0 : Nobs X.K B Hs1 (upd H1 Dl (.lst [])) (wipe σ vs) (wipeE ρ1 vs) [Dl] := by
    obtain ⟨F, h0, h1⟩ := f3
    have n0 : Nobs X.K B Hs1 H1 σ ρ1 [Dl] := ⟨F, h0, fun j a m => by rw [List.mem_singleton] at m; subst m; exact h1 j⟩
    exact Nobs.wiped (Nobs.grow n0 sl1 g0) vs
  refine ⟨fun i m H' => m = ds.length - i ∧ i ≤ ds.length ∧ ∃ Hs' ρ' acc us g, Same Hs1 Hs' ∧ Sl X.K B Hs' H' (wipe σ vs) (wipeE ρ' vs) ∧ H' Dl = some (.lst us) ∧ Hs' Dl = none ∧ TreA X.K B.pin Hs' H' us acc g ∧ (Dl :: g).Nodup ∧ (∀ a ∈ Dl :: g, B.nw a) ∧ Nobs X.K B Hs' H' (wipe σ vs) (wipeE ρ' vs) (Dl :: g) ∧ Fin acc (compLoopT t vs tt fe (ds.drop i) (wipeE ρ' vs)),
    ⟨ds.length, rfl, Nat.zero_le _, Hs1, ρ1, [], [], [], .refl _, (sl1.grow g0).wiped vs, upd_same, f1, .nil, by simp, fun a m => by rw [List.mem_singleton] at m; subst m; exact f2, nb0, fin0⟩, ?_⟩
  rintro i m H2 ⟨rfl, hi, Hs2, ρ2, acc, us, g, s2, sl2, hD2, nd2, tA2, nu2, nw2, nb2, fin2⟩
  have sm : Same Hs1 H2 := s2.trans sl2.sub
  by_cases hlt : i < ds.length
  · refine .inr ⟨w.goes i H2 hlt sm, fun H' => i + 1 ≤ ds.length ∧ ∃ Hs' ρ' acc us g, Same Hs1 Hs' ∧ Sl X.K B Hs' H' (wipe σ vs) (wipeE ρ' vs) ∧ H' Dl = some (.lst us) ∧ Hs' Dl = none ∧ TreA X.K B.pin Hs' H' us acc g ∧ (Dl :: g).Nodup ∧ (∀ a ∈ Dl :: g, B.nw a) ∧ Nobs X.K B Hs' H' (wipe σ vs) (wipeE ρ' vs) (Dl :: g) ∧ Fin acc (compLoopT t vs tt fe (ds.drop (i + 1)) (wipeE ρ' vs)),
      fun H' h => ⟨ds.length - (i + 1), by omega, rfl, h⟩, fun x H3 y => ?_⟩
    obtain ⟨Hs3, gr, r⟩ := w.yields i H2 x H3 ds[i] (by simp [hlt]) sm y Hs2 s2 sl2.sub
    rw [drop_get hlt] at fin2
    unfold compLoopT at fin2
    cases ep : Tg.put t ds[i] (wipeE ρ2 vs) with
    | none => rw [ep] at fin2; exact fin2.elim
    | some ρ3 =>
      rw [ep] at fin2
      dsimp only at fin2
      have sl3 := sl2.grow gr
      have tree2 : Tre X.K B.pin Hs2 H2 (.ref Dl) (bx (.list acc)) (Dl :: g) := .lst hD2 nd2 tA2
      have tree3 := tree2.grow gr
      obtain ⟨F3, fe3, nF3⟩ := Nobs.grow nb2 sl2 gr
      obtain ⟨B', slI, A⟩ := sl3.aside fe3 (fun a m => tree3.there a m) nF3
      refine ⟨B', Hs3, _, _, ρ3, slI, r, ep, fun σ4 sl4 o4 => ?_⟩
      have wq : wipe σ4 vs = wipe σ vs := (wipe_eq (σ := wipe σ vs) (σ' := σ4) ⟨o4.1, fun j hj => o4.2 j fun z => hj (hv j z)⟩).trans (wipe_eq ⟨wipe_length _ _, fun j hj => wipe_out' hj⟩)
      refine ⟨wq, B', Hs3, ρ3, sl4, ?_⟩
      -- what floats stands
      have stands : ∀ {Hs' H' ρ'}, Sl X.K B' Hs' H' (wipe σ vs) ρ' → Same Hs3 Hs' → Tre X.K B.pin Hs' H' (.ref Dl) (bx (.list acc)) (Dl :: g) := fun {Hs' H' ρ'} s e => by
        have st := A.st Hs' H' ρ' s
        exact tree3.mono e (fun _ _ z => z) (fun a m o e => (st a m).1 o e) fun a m _ => (st a m).2
      cases et : tt ρ3 with
      | er e z => rw [et] at fin2; exact fin2.elim
      | bad => rw [et] at fin2; exact fin2.elim
      | ok b ρ4 =>
        rw [et] at fin2
        unfold DL.noEr O.bind at fin2
        dsimp only at fin2
        intro Hs5 H5 sl5 e5
        cases b with
        | false =>
          rw [if_neg (by decide)] at fin2
          rw [if_neg (by decide)]
          have sl6 := sl5.wiped vs
          rw [wq] at sl6
          obtain ⟨F6, fe6⟩ := sl6.feet
          obtain ⟨fo, nf⟩ := A.feet _ _ _ F6 sl6 fe6
          obtain ⟨us', g', h1, h2, eg, h3⟩ := (stands sl6 e5).lstOf
          have eg : g' = g := (List.cons.inj eg).2.symm
          subst eg
          exact ⟨hlt, Hs5, ρ4, acc, us', g', (s2.trans gr.s).trans e5, A.out _ _ _ sl6, h1, h2, h3, nu2, nw2, ⟨F6, fo, nf⟩, fin2⟩
        | true =>
          rw [if_pos rfl] at fin2
          rw [if_pos rfl]
          refine ⟨B', Hs5, ρ4, sl5, ?_⟩
          cases ee : fe ρ4 with
          | er e z => rw [ee] at fin2; exact fin2.elim
          | bad => rw [ee] at fin2; exact fin2.elim
          | ok z6 ρ6 =>
            rw [ee] at fin2
            dsimp only at fin2
            intro Hs7 H7 sl7 e7 p7 f7 tp7 nw7 nb7
            have sl8 := sl7.wiped vs
            rw [wq] at sl8
            have nb8 := Nobs.wiped nb7 vs
            rw [wq] at nb8
            obtain ⟨F8, fe8, nF8⟩ := nb8
            obtain ⟨fo, nf⟩ := A.feet _ _ _ F8 sl8 fe8
            obtain ⟨us', g', h1, h2, eg, h3⟩ := (stands sl8 (e5.trans e7)).lstOf
            have eg : g' = g := (List.cons.inj eg).2.symm
            subst eg
            cases ec : compLoopT t vs tt fe (ds.drop (i + 1)) (wipeE ρ6 vs) with
            | er e z => rw [ec] at fin2; exact fin2.elim
            | bad => rw [ec] at fin2; exact fin2.elim
            | ok zs ρ10 =>
              rw [ec] at fin2
              obtain ⟨l10, fin10⟩ := fin2
              have h8 : (100000 : Nat) ≤ sizeLine := by decide
              have slo := A.out _ _ _ sl8
              obtain ⟨sl9, fe9⟩ := slo.scratch (o := .lst (us' ++ [.ref p7])) fo (fun j => nf j Dl List.mem_cons_self) h2 (.inl (nw2 Dl List.mem_cons_self)) (fun ⟨_, t⟩ => by rw [h1] at t; cases t)
              have nDg : Dl ∉ g' := (List.nodup_cons.mp nu2).1
              have ng : g'.Nodup := (List.nodup_cons.mp nu2).2
              have d7 : ∀ a ∈ f7, a ≠ Dl ∧ a ∉ g' := fun a m => by
                have := (A.nw a (nw7 a m)).2
                exact ⟨fun z => this (by rw [z]; exact List.mem_cons_self), fun z => this (List.mem_cons_of_mem _ z)⟩
              have t7 : Tre X.K B.pin Hs7 H7 (.ref p7) (bx z6) f7 := by rw [← A.pin]; exact tp7.1
              have t9 : Tre X.K B.pin Hs7 (L2.upd H7 Dl (.lst (us' ++ [.ref p7]))) (.ref p7) (bx z6) f7 := t7.mono (.refl _) (fun _ _ z => z) (fun a m o e => by rw [L2.upd_ne (d7 a m).1]; exact e) fun _ _ z => z
              have t10 := (h3.but (Hs1 := Hs7) (H1 := H7) (q := Dl) (o := .lst (us' ++ [.ref p7])) (.refl _) (fun a m => ⟨fun o e => e, (h3.there a m).2⟩) nDg).snocT t9
              refine ⟨us', h1, ?_, hlt, Hs7, ρ6, acc ++ [bx z6], us' ++ [.ref p7], g' ++ f7, (s2.trans gr.s).trans (e5.trans e7), sl9, L2.upd_same, h2, t10, ?_, fun a m => ?_, ⟨F8, fe9, fun j a m => ?_⟩, ?_⟩
              · rw [h3.len]
                rw [List.length_append, List.length_cons] at l10
                omega
              · refine List.nodup_cons.mpr ⟨fun z => ?_, List.nodup_append.mpr ⟨ng, tp7.2.2, fun x mx y my z => ?_⟩⟩
                · rcases List.mem_append.mp z with z | z
                  · exact nDg z
                  · exact (d7 _ z).1 rfl
                · subst z
                  exact (d7 _ my).2 mx
              · rcases List.mem_cons.mp m with rfl | m
                · exact nw2 _ List.mem_cons_self
                · rcases List.mem_append.mp m with m | m
                  · exact nw2 a (List.mem_cons_of_mem _ m)
                  · exact (A.nw a (nw7 a m)).1
              · rcases List.mem_cons.mp m with rfl | m
                · exact nf j _ List.mem_cons_self
                · rcases List.mem_append.mp m with m | m
                  · exact nf j a (List.mem_cons_of_mem _ m)
                  · exact nF8 j a m
              · rw [ec]
                refine ⟨?_, ?_⟩
                · rw [List.append_assoc]; exact l10
                · rw [List.append_assoc]; exact fin10
  · have e : i = ds.length := by omega
    subst e
    rw [List.drop_length] at fin2
    obtain ⟨_, fin3⟩ := fin2
    rw [List.append_nil] at fin3
    obtain ⟨F2, fe2, nF2⟩ := nb2
    exact .inl ⟨w.stops H2 sm, fin3 Hs2 H2 Dl (Dl :: g) sl2.unwipe s2 ⟨.lst hD2 nd2 tA2, List.mem_cons_self, nu2⟩ nw2 ⟨F2, fe2.unwipe sl2, nF2⟩⟩
/-- [new e for t in .. if ..] -/
theorem pt_lc (hc : X.calm = true) (hN : X.N.Nodup) (hi : PID X B W tg iter src) (ok : BlkOk X.N X.env.scope scope own)
    (hg : ∀ (s : Shared) (H : Hp) (C : Addr) (cl : List (Str × Addr)) (fp : List Addr) (B : Bs), PG (X.blk s H scope (compEnvC scope cl C X.env) fp) tg (gD X.K B t))
    (ht : ∀ (s : Shared) (H : Hp) (C : Addr) (cl : List (Str × Addr)) (fp : List Addr) (B : Bs), PTs (X.blk s H scope (compEnvC scope cl C X.env) fp) ifs (tTD X.K X.mg B W0 tt))
    (he : ∀ (s : Shared) (H : Hp) (C : Addr) (cl : List (Str × Addr)) (fp : List Addr) (B : Bs), PT' (X.blk s H scope (compEnvC scope cl C X.env) fp) B W0 elt fe)
    (hv : ∀ i ∈ t.at, i ∈ own.map (·.2) := by decide) (hs : ∀ x, foldedSetIterable iter X.env x = pure x := by intro _; rfl) : PT' X B W (.ListComp elt [⟨tg, iter, ifs, 0⟩] scope pos) (compT t (own.map (·.2)) src tt fe) :=
  PE.imp (pe_lc (g := tgA X.K t) (tt := tTA X.K X.mg tt) (te := tTE X.K X.mg fe) hc hN hi ok (fun s H C cl fp => ⟨fun pins s' σ H' v u Q I r ⟨B, q⟩ => (hg s H C cl fp B).run pins s' σ H' v u Q I r q⟩)
    (fun s H C cl fp => ⟨fun pins s' σ H' Q I ⟨B, q⟩ => (ht s H C cl fp B).run pins s' σ H' Q I q⟩) (fun s H C cl fp => ⟨fun pins s' σ H' Q I ⟨B, q⟩ => (he s H C cl fp B).run pins s' σ H' Q I q⟩) hs) fun σ H Q h => comp_readT hv h
/-- name = [..] on one line -/
theorem psd_setLcT {i : Nat} {y : Str} {py : Pos} {spos : Pos} (hc : X.calm = true) (hN : X.N.Nodup) (hy : X.N[i]? = some y) (hyl : X.env.scope.names.lookup y = some .local)
    (hsw : swapsWith (.ListComp elt [⟨tg, iter, ifs, 0⟩] scope pos) (some (.Name y py)) spos.line X.env = pure true) (hi : PID X B W tg iter src) (ok : BlkOk X.N X.env.scope scope own)
    (hg : ∀ (s : Shared) (H : Hp) (C : Addr) (cl : List (Str × Addr)) (fp : List Addr) (B : Bs), PG (X.blk s H scope (compEnvC scope cl C X.env) fp) tg (gD X.K B t))
    (ht : ∀ (s : Shared) (H : Hp) (C : Addr) (cl : List (Str × Addr)) (fp : List Addr) (B : Bs), PTs (X.blk s H scope (compEnvC scope cl C X.env) fp) ifs (tTD X.K X.mg B W0 tt))
    (he : ∀ (s : Shared) (H : Hp) (C : Addr) (cl : List (Str × Addr)) (fp : List Addr) (B : Bs), PT' (X.blk s H scope (compEnvC scope cl C X.env) fp) B W0 elt fe)
    (hv : ∀ i ∈ t.at, i ∈ own.map (·.2) := by decide) (hs : ∀ x, foldedSetIterable iter X.env x = pure x := by intro _; rfl) : PSD X B W (.Assign [.Name y py] (.ListComp elt [⟨tg, iter, ifs, 0⟩] scope pos) spos) (asgTr i (compT t (own.map (·.2)) src tt fe)) :=
  PS.imp (ps_setLc (g := tgA X.K t) (tt := tTA X.K X.mg tt) (te := tTE X.K X.mg fe) hc hN hy hyl hsw hi ok (fun s H C cl fp => ⟨fun pins s' σ H' v u Q I r ⟨B, q⟩ => (hg s H C cl fp B).run pins s' σ H' v u Q I r q⟩)
    (fun s H C cl fp => ⟨fun pins s' σ H' Q I ⟨B, q⟩ => (ht s H C cl fp B).run pins s' σ H' Q I q⟩) (fun s H C cl fp => ⟨fun pins s' σ H' Q I ⟨B, q⟩ => (he s H C cl fp B).run pins s' σ H' Q I q⟩) hs) fun D' σ H ⟨Hs, ρ, sl, q⟩ => by
  refine comp_readT hv ⟨Hs, ρ, sl, OP.imp (OP.stm q) fun d ρ1 Hs1 H1 _ sl1 e1 q1 p f tp nw ⟨F, fe, nF⟩ => ?_⟩
  exact q1 _ Hs1 H1 (sl1.store (s := .tre d) ⟨p, f, rfl, tp, nw⟩ fun _ => ⟨f, ⟨p, rfl, tp, nw⟩, F, fe, fun j _ a m => nF j a m⟩) (.refl _)
end
end DL

/-! DD -/
namespace DL
open PySem PySem.Spec PyProof.Rows L2

/-! ### dicts as data -/
def keq1 : D → D → Bool
  | .int i, .int j => decide (i = j)
  | .str x, .str y => decide (x = y)
  | _, _ => false
def keqL : List D → List D → Bool
  | [], [] => true
  | a :: as, b :: bs => keq1 a b && keqL as bs
  | _, _ => false
def keq : D → D → Bool
  | .tuple a, .tuple b => keqL a b
  | a, b => keq1 a b
def lookD (kvs : List (D × D)) (q : D) : Option D := (kvs.find? fun kv => keq kv.1 q).map (·.2)
def putD (kvs : List (D × D)) (q v : D) : List (D × D) := if (kvs.any fun kv => keq kv.1 q) = true then kvs.map (fun kv => if keq kv.1 q = true then (kv.1, v) else kv) else kvs ++ [(q, v)]
def key1 : D → Option Key
  | .int i => some (.inl i)
  | .str x => some (.inr x)
  | _ => none
def keyL : List D → Option (List Key)
  | [] => some []
  | d :: ds => (key1 d).bind fun k => (keyL ds).map (k :: ·)
/-- a dict with keys ints and texts -/
def asK : D → Option (List (D × D))
  | .dict ((.none, _) :: _) => none
  | .dict ((.bool _, _) :: _) => none
  | .dict kvs => some kvs
  | _ => none
/-- a dict with keys tuples of these -/
def asT : D → Option (List (D × D))
  | .dict ((.bool false, .int i) :: kvs) => if i = 1 then some kvs else none
  | _ => none
/-- what d holds at the key: none if this is not followed -/
def lookA (d q : D) : Option (Option D) := match q with
  | .tuple ks => (asT d).bind fun kvs => (keyL ks).map fun _ => lookD kvs q
  | q => (asK d).bind fun kvs => (key1 q).map fun _ => lookD kvs q
theorem asK_eq {d : D} {kvs : List (D × D)} (h : asK d = some kvs) : d = .dict kvs ∧ (∀ x r, kvs ≠ (.none, x) :: r) ∧ ∀ b x r, kvs ≠ (.bool b, x) :: r := by
  unfold asK at h
  split at h
  · cases h
  · cases h
  · rename_i a b
    cases h
    exact ⟨rfl, fun x r e => a x r (by rw [e]), fun b' x r e => b b' x r (by rw [e])⟩
  · cases h
theorem asT_eq {d : D} {kvs : List (D × D)} (h : asT d = some kvs) : d = .dict (tagT :: kvs) := by
  unfold asT at h
  split at h
  · rename_i i r
    by_cases e : i = 1
    · rw [if_pos e] at h; cases h; subst e; rfl
    · rw [if_neg e] at h; cases h
  · cases h
theorem key1_eq {d : D} {k : Key} (h : key1 d = some k) : d = keyD k := by
  unfold key1 at h
  split at h <;> cases h <;> rfl
theorem keyL_eq : ∀ {ds : List D} {ks : List Key}, keyL ds = some ks → ds = ks.map keyD
  | [], ks, h => by cases h; rfl
  | d :: ds, ks, h => by
    unfold keyL at h
    cases e1 : key1 d with
    | none => rw [e1] at h; cases h
    | some k =>
      rw [e1, Option.bind_some] at h
      cases e2 : keyL ds with
      | none => rw [e2] at h; cases h
      | some r => rw [e2] at h; cases h; rw [key1_eq e1, keyL_eq e2]; rfl
theorem keq1_key (a b : Key) : keq1 (keyD a) (keyD b) = decide (a = b) := by
  cases a <;> cases b <;> simp [keyD, keq1]
theorem keqL_key : ∀ (a b : List Key), keqL (a.map keyD) (b.map keyD) = decide (a = b)
  | [], [] => by simp [keqL]
  | [], _ :: _ => by simp [keqL]
  | _ :: _, [] => by simp [keqL]
  | x :: a, y :: b => by
    rw [List.map_cons, List.map_cons]
    unfold keqL
    rw [keq1_key, keqL_key a b, Bool.eq_iff_iff, Bool.and_eq_true, decide_eq_true_iff, decide_eq_true_iff, decide_eq_true_iff, List.cons.injEq]
theorem keq_k (a b : Key) : keq (keyD a) (keyD b) = decide (a = b) := by
  rw [← keq1_key]
  cases a <;> cases b <;> rfl
theorem keq_t (a b : List Key) : keq (.tuple (a.map keyD)) (.tuple (b.map keyD)) = decide (a = b) := keqL_key a b
section
variable {K : Fg} {H : Hp}
theorem Rep.key {v : V} {k : Key} (r : Rep K H v (keyD k)) : v = kV k := by
  cases k <;> (cases r; rfl)
theorem RepA.keys : ∀ {vs : List V} {ks : List Key}, RepA K H vs (ks.map keyD) → vs = ks.map kV
  | _, [], .nil => rfl
  | _, k :: ks, .cons a b => by rw [a.key, RepA.keys b]; rfl
theorem RepK.look {k : Key} : ∀ {ks : List (Key × V)} {kvs : List (D × D)}, RepK K H ks kvs → (lookD kvs (keyD k) = none → valV ks k = none) ∧ ∀ d, lookD kvs (keyD k) = some d → ∃ v, valV ks k = some v ∧ Rep K H v d
  | _, _, .nil => ⟨fun _ => rfl, fun d h => by cases h⟩
  | _, _, .cons (k := j) (v := v) (ks := ks) (d := d) (kvs := kvs) a b => by
    obtain ⟨i1, i2⟩ := RepK.look (k := k) b
    unfold lookD at i1 i2 ⊢
    rw [List.find?_cons, keq_k]
    by_cases e : j = k
    · rw [decide_eq_true e, valV_pos (p := (j, v)) e]
      exact ⟨fun h => (by cases h), fun d' h => (by cases h; exact ⟨v, rfl, a⟩)⟩
    · rw [decide_eq_false e, valV_neg (p := (j, v)) e]
      exact ⟨i1, i2⟩
theorem RepT.look {k : List Key} : ∀ {ks : List (List Key × V)} {kvs : List (D × D)}, RepT K H ks kvs → (lookD kvs (.tuple (k.map keyD)) = none → valV ks k = none) ∧ ∀ d, lookD kvs (.tuple (k.map keyD)) = some d → ∃ v, valV ks k = some v ∧ Rep K H v d
  | _, _, .nil => ⟨fun _ => rfl, fun d h => by cases h⟩
  | _, _, .cons (k := j) (v := v) (ks := ks) (d := d) (kvs := kvs) a b => by
    obtain ⟨i1, i2⟩ := RepT.look (k := k) b
    unfold lookD at i1 i2 ⊢
    rw [List.find?_cons, keq_t]
    by_cases e : j = k
    · rw [decide_eq_true e, valV_pos (p := (j, v)) e]
      exact ⟨fun h => (by cases h), fun d' h => (by cases h; exact ⟨v, rfl, a⟩)⟩
    · rw [decide_eq_false e, valV_neg (p := (j, v)) e]
      exact ⟨i1, i2⟩
theorem RepK.anyK {k : Key} : ∀ {ks : List (Key × V)} {kvs : List (D × D)}, RepK K H ks kvs → (kvs.any fun kv => keq kv.1 (keyD k)) = ks.any fun kv => decide (kv.1 = k)
  | _, _, .nil => rfl
  | _, _, .cons a b => by rw [List.any_cons, List.any_cons, RepK.anyK b, keq_k]
theorem RepT.anyT {k : List Key} : ∀ {ks : List (List Key × V)} {kvs : List (D × D)}, RepT K H ks kvs → (kvs.any fun kv => keq kv.1 (.tuple (k.map keyD))) = ks.any fun kv => decide (kv.1 = k)
  | _, _, .nil => rfl
  | _, _, .cons a b => by rw [List.any_cons, List.any_cons, RepT.anyT b, keq_t]
theorem RepK.repl {k : Key} {v : V} {d : D} (r : Rep K H v d) : ∀ {ks : List (Key × V)} {kvs : List (D × D)}, RepK K H ks kvs → RepK K H (ks.map fun kv => if kv.1 = k then (kv.1, v) else kv) (kvs.map fun kv => if keq kv.1 (keyD k) = true then (kv.1, d) else kv)
  | _, _, .nil => .nil
  | _, _, .cons (k := j) a b => by
    rw [List.map_cons, List.map_cons, keq_k]
    by_cases e : j = k
    · rw [if_pos e, if_pos (decide_eq_true e)]; exact .cons r (RepK.repl r b)
    · rw [if_neg e, if_neg (by rw [decide_eq_false e]; decide)]; exact .cons a (RepK.repl r b)
theorem RepT.repl {k : List Key} {v : V} {d : D} (r : Rep K H v d) : ∀ {ks : List (List Key × V)} {kvs : List (D × D)}, RepT K H ks kvs → RepT K H (ks.map fun kv => if kv.1 = k then (kv.1, v) else kv) (kvs.map fun kv => if keq kv.1 (.tuple (k.map keyD)) = true then (kv.1, d) else kv)
  | _, _, .nil => .nil
  | _, _, .cons (k := j) a b => by
    rw [List.map_cons, List.map_cons, keq_t]
    by_cases e : j = k
    · rw [if_pos e, if_pos (decide_eq_true e)]; exact .cons r (RepT.repl r b)
    · rw [if_neg e, if_neg (by rw [decide_eq_false e]; decide)]; exact .cons a (RepT.repl r b)
theorem RepK.snoc {k : Key} {v : V} {d : D} (r : Rep K H v d) : ∀ {ks : List (Key × V)} {kvs : List (D × D)}, RepK K H ks kvs → RepK K H (ks ++ [(k, v)]) (kvs ++ [(keyD k, d)])
  | _, _, .nil => .cons r .nil
  | _, _, .cons a b => .cons a (RepK.snoc r b)
theorem RepT.snoc {k : List Key} {v : V} {d : D} (r : Rep K H v d) : ∀ {ks : List (List Key × V)} {kvs : List (D × D)}, RepT K H ks kvs → RepT K H (ks ++ [(k, v)]) (kvs ++ [(.tuple (k.map keyD), d)])
  | _, _, .nil => .cons r .nil
  | _, _, .cons a b => .cons a (RepT.snoc r b)
theorem RepK.put {k : Key} {v : V} {d : D} {ks : List (Key × V)} {kvs : List (D × D)} (r : Rep K H v d) (b : RepK K H ks kvs) : RepK K H (putK ks k v) (putD kvs (keyD k) d) := by
  unfold putK putD
  rw [b.anyK]
  split
  · exact b.repl r
  · exact b.snoc r
theorem RepT.put {k : List Key} {v : V} {d : D} {ks : List (List Key × V)} {kvs : List (D × D)} (r : Rep K H v d) (b : RepT K H ks kvs) : RepT K H (putK ks k v) (putD kvs (.tuple (k.map keyD)) d) := by
  unfold putK putD
  rw [b.anyT]
  split
  · exact b.repl r
  · exact b.snoc r
theorem RepK.length : ∀ {ks : List (Key × V)} {kvs : List (D × D)}, RepK K H ks kvs → ks.length = kvs.length
  | _, _, .nil => rfl
  | _, _, .cons _ b => congrArg Nat.succ b.length
theorem RepT.length : ∀ {ks : List (List Key × V)} {kvs : List (D × D)}, RepT K H ks kvs → ks.length = kvs.length
  | _, _, .nil => rfl
  | _, _, .cons _ b => congrArg Nat.succ b.length
theorem RepK.nobool : ∀ {ks : List (Key × V)} {kvs : List (D × D)}, RepK K H ks kvs → ∀ b x r, kvs ≠ (.bool b, x) :: r
  | _, _, .nil, _, _, _ => nofun
  | _, _, .cons (k := k) _ _, b, x, r => by cases k <;> exact fun e => by cases e
end
/-- a dict of the one kind, or the other -/
theorem Shal.dictK {K : Fg} {Hs H : Hp} {v : V} {d : D} {kvs : List (D × D)} (s : Shal K Hs H v d) (e : Same Hs H) (h : asK d = some kvs) : ∃ p ks, v = .ref p ∧ Rd H p (.dK ks) ∧ RepK K Hs ks kvs := by
  obtain ⟨rfl, n1, n2⟩ := asK_eq h
  rcases s with r | ⟨p, rfl, c⟩
  · cases r with
    | dK a b => exact ⟨_, _, rfl, Same.rd e a, b⟩
    | dT a b => exact absurd rfl (n2 _ _ _)
    | ins a b c => exact absurd rfl (n1 _ _)
  · rcases c with ⟨ks, a, b⟩ | ⟨ks, es, rfl, a, b⟩
    · exact ⟨p, ks, rfl, .inl a, b⟩
    · exact absurd rfl (n2 _ _ _)
theorem Shal.dictT {K : Fg} {Hs H : Hp} {v : V} {d : D} {kvs : List (D × D)} (s : Shal K Hs H v d) (e : Same Hs H) (h : asT d = some kvs) : ∃ p ks, v = .ref p ∧ Rd H p (.dT ks) ∧ RepT K Hs ks kvs := by
  obtain rfl := asT_eq h
  rcases s with r | ⟨p, rfl, c⟩
  · generalize ez : PyData.dict (tagT :: kvs) = z at r
    cases r with
    | dK a b => cases ez; exact absurd rfl (b.nobool _ _ _)
    | dT a b => cases ez; exact ⟨_, _, rfl, Same.rd e a, b⟩
    | _ => cases ez
  · rcases c with ⟨ks, a, b⟩ | ⟨ks, es, ee, a, b⟩
    · exact absurd rfl (b.nobool _ _ _)
    · cases ee
      exact ⟨p, ks, rfl, .inl a, b⟩
theorem Shal.keyAt {K : Fg} {Hs H : Hp} {v : V} {d : D} {k : Key} (s : Shal K Hs H v d) (h : key1 d = some k) : v = kV k := by
  rw [key1_eq h] at s
  rcases s with r | ⟨p, rfl, c⟩
  · exact r.key
  · cases k <;> exact c.elim
/-- the dict's place at this key -/
theorem look_at {K : Fg} {Hs H : Hp} {x y : V} {d q : D} {o : Option D} (e : Same Hs H) (sx : Shal K Hs H x d) (sy : Shal K Hs H y q) (h : lookA d q = some o) :
    ∃ a z, x = .ref a ∧ DGet H a y z ∧ (o = none → z = none) ∧ ∀ d', o = some d' → ∃ v, z = some v ∧ Rep K Hs v d' := by
  unfold lookA at h
  split at h
  · rename_i qs
    cases e1 : asT d with
    | none => rw [e1] at h; cases h
    | some kvs =>
      rw [e1, Option.bind_some] at h
      cases e2 : keyL qs with
      | none => rw [e2] at h; cases h
      | some k =>
        rw [e2] at h
        cases h
        obtain ⟨p, ks, rfl, rd, r⟩ := sx.dictT e e1
        obtain ⟨b, vs, rfl, hb, rv⟩ := sy.tupH e
        obtain rfl := keyL_eq e2
        rw [rv.keys] at hb
        obtain ⟨l1, l2⟩ := r.look (k := k)
        exact ⟨p, _, rfl, .inr ⟨ks, k, b, rd, rfl, hb, rfl⟩, l1, l2⟩
  · rename_i nt
    cases e1 : asK d with
    | none => rw [e1] at h; cases h
    | some kvs =>
      rw [e1, Option.bind_some] at h
      cases e2 : key1 q with
      | none => rw [e2] at h; cases h
      | some k =>
        rw [e2] at h
        cases h
        obtain ⟨p, ks, rfl, rd, r⟩ := sx.dictK e e1
        obtain rfl := sy.keyAt e2
        have eq := key1_eq e2
        subst eq
        obtain ⟨l1, l2⟩ := r.look (k := k)
        exact ⟨p, _, rfl, .inl ⟨ks, k, rd, rfl, rfl⟩, l1, l2⟩
/-! d[k], k in d, k not in d, len(d) -/
def dgetD (d q : D) : Option D := (lookA d q).bind id
def dinD (q d : D) : Option D := (lookA d q).map fun o => .bool o.isSome
def dnotinD (q d : D) : Option D := (lookA d q).map fun o => .bool (!o.isSome)
def dlenD (d : D) : Option D := match asT d with
  | some kvs => if short kvs.unzip.1 = true then some (.int kvs.length) else none
  | none => (asK d).bind fun kvs => if short kvs.unzip.1 = true then some (.int kvs.length) else none
section
variable {X : Cx}
theorem isSome_of {o : Option D} {z : Option V} (h1 : o = none → z = none) (h2 : ∀ d', o = some d' → ∃ v, z = some v ∧ True) : z.isSome = o.isSome := by
  cases o with
  | none => rw [h1 rfl]; rfl
  | some d => obtain ⟨v, e, _⟩ := h2 d rfl; rw [e]; rfl
theorem ox_din (hu : X.A.units + 64 < cLine) : OpX X (compareOp .In) dinD := fun pins s σ H x y v u Q I rx ry q => by
  obtain ⟨Hs, d, e, z, sb, sx, sy, ez, q⟩ := q
  unfold dinD at ez
  cases el : lookA e d with
  | none => rw [el] at ez; cases ez
  | some o =>
    rw [el] at ez
    cases ez
    obtain ⟨a, zz, rfl, g, h1, h2⟩ := look_at sb sy sx el
    have ei : zz.isSome = o.isSome := isSome_of h1 fun d' e => let ⟨v, e1, _⟩ := h2 d' e; ⟨v, e1, trivial⟩
    obtain rfl : u = Value.ref a := ry
    refine d_in (by omega) I g rx fun s3 I3 => ⟨.bl zz.isSome, H, I3, rfl, ?_⟩
    rw [ei]
    exact q _ Hs H (.refl sb) (.bl _)
theorem ox_dnotin (hu : X.A.units + 64 < cLine) : OpX X (compareOp .NotIn) dnotinD := fun pins s σ H x y v u Q I rx ry q => by
  obtain ⟨Hs, d, e, z, sb, sx, sy, ez, q⟩ := q
  unfold dnotinD at ez
  cases el : lookA e d with
  | none => rw [el] at ez; cases ez
  | some o =>
    rw [el] at ez
    cases ez
    obtain ⟨a, zz, rfl, g, h1, h2⟩ := look_at sb sy sx el
    have ei : zz.isSome = o.isSome := isSome_of h1 fun d' e => let ⟨v, e1, _⟩ := h2 d' e; ⟨v, e1, trivial⟩
    obtain rfl : u = Value.ref a := ry
    refine d_notIn (by omega) I g rx fun s3 I3 => ⟨.bl (!zz.isSome), H, I3, rfl, ?_⟩
    rw [ei]
    exact q _ Hs H (.refl sb) (.bl _)
theorem ix_dict (hu : X.A.units + 64 < cLine) : IxR X (rX X.K dgetD) := fun value slice pins s σ H x y v u Q I rx ry q hs => by
  obtain ⟨Hs, d, e, z, sb, sx, sy, ez, q⟩ := q
  unfold dgetD at ez
  cases el : lookA d e with
  | none => rw [el] at ez; cases ez
  | some o =>
    rw [el, Option.bind_some] at ez
    cases ez
    obtain ⟨a, zz, rfl, g, h1, h2⟩ := look_at sb sx sy el
    obtain ⟨w, rfl, rw_⟩ := h2 z rfl
    obtain rfl : v = Value.ref a := rx
    have gd := q _ Hs H (.refl sb) rw_
    have ty := dict_typeIs I g
    rcases g with ⟨kvs, k, e, ey, l⟩ | ⟨kvs, k, b, e, ey, eb, l⟩
    · subst ey
      obtain ⟨_, hd, vs, rel, dd⟩ := dk_rd I.hok e
      obtain ⟨w', hw, rw'⟩ := RelO.some_of (v := w) (o := valueAt vs k) (by rw [l]; exact rel.val k)
      exact subscriptTail_builtinR (x := w') ty PySem.F.slot_dict_getitem.lookup (wpAny_getItem_of (kV_is ry) dd.mapOf hw ⟨rfl, w, H, I.tok _, rw', gd⟩) hs
    · subst ey
      obtain rfl : u = Value.ref b := ry
      obtain ⟨_, hd, xs, rel, dd⟩ := dt_rd I.hok e
      obtain ⟨w', hw, rw'⟩ := RelO.some_of (v := w) (o := (atKey xs k).map (·.2)) (by rw [l]; exact rel.val k)
      obtain ⟨p, hp, hp2⟩ := Option.map_eq_some_iff.mp hw
      have key := wpAny_getItem_heap (E := X.xe) (Q := fun r s' => r = w' ∧ EP X pins σ Q r s') (tupleKind_room_in1 (A := X.A) (by omega)) (key_of I.hok eb) dd hp
      refine subscriptTail_builtinR (x := w') ty PySem.F.slot_dict_getitem.lookup (key ?_) hs
      rw [hp2]
      exact ⟨rfl, w, H, I.tok _, rw', gd⟩
end
end DL

/-! DD2 -/
namespace DL
open PySem PySem.Spec PyProof.Rows L2

/-! ### len(d), d.get -/
def dsizeD (d : D) : Option D := match asT d with
  | some kvs => some (.int kvs.length)
  | none => (asK d).map fun kvs => .int kvs.length
section
variable {X : Cx} {B : Bs} {W : WX} {e a b c : Expr} {fa fb fc : EF} {pos apos cpos : Pos}
theorem cx_dlen : CallR X (.builtin "len") (rXc X.K (one dsizeD)) := fun pins s σ H vs us Q I r h => by
  obtain ⟨v, Hs, d, z, rfl, sm, sh, eg, q⟩ := h.one
  obtain ⟨u, rfl, rx⟩ := vals1 r
  unfold dsizeD at eg
  cases e1 : asT d with
  | some kvs =>
    rw [e1] at eg; cases eg
    obtain ⟨p, ks, rfl, rd, rr⟩ := sh.dictT sm e1
    obtain rfl : u = .ref p := rx
    obtain ⟨n1, n2, xs, rel, dd⟩ := dt_rd I.hok rd
    have hl : ks.length = xs.length := Paired.length rel
    have hk := rr.length
    refine call_len_dictH n2 dd (by rw [← hl]; rw [sizeLine_eq] at n1; omega) ?_
    rw [← hl, hk]
    exact ⟨.int kvs.length, H, I.tok _, ⟨_, rfl⟩, q _ Hs H (.refl sm) (.int _)⟩
  | none =>
    rw [e1] at eg
    cases e2 : asK d with
    | none => rw [e2] at eg; cases eg
    | some kvs =>
      rw [e2] at eg; cases eg
      obtain ⟨p, ks, rfl, rd, rr⟩ := sh.dictK sm e2
      obtain rfl : u = .ref p := rx
      have ql := q (.int kvs.length) Hs H (.refl sm) (.int _)
      refine d_len I rd fun t s3 I3 => ⟨.int kvs.length, H, I3, ⟨t, ?_⟩, ql⟩
      rw [rr.length]
def isDict (d : D) : Bool := (asT d).isSome || (asK d).isSome
theorem Shal.isd {K : Fg} {Hs H : Hp} {v : V} {d : D} (s : Shal K Hs H v d) (e : Same Hs H) (h : isDict d = true) : ∃ a, v = .ref a ∧ IsD H a := by
  unfold isDict at h
  cases e1 : asT d with
  | some kvs =>
    obtain ⟨p, ks, rfl, rd, _⟩ := s.dictT e e1
    exact ⟨p, rfl, .inr ⟨ks, rd⟩⟩
  | none =>
    rw [e1] at h
    cases e2 : asK d with
    | none => rw [e2] at h; cases h
    | some kvs =>
      obtain ⟨p, ks, rfl, rd, _⟩ := s.dictK e e2
      exact ⟨p, rfl, .inl ⟨ks, rd⟩⟩
/-- d.get(k, x) -/
def dget2F (fa fb fc : EF) : EF := fun ρ => (fa ρ).bind fun x ρ1 => if ((x.get ρ1).map isDict) = some true then (fb ρ1).bind fun y ρ2 => (fc ρ2).bind fun z ρ3 =>
  match (x.get ρ3).bind fun d => (y.get ρ3).bind fun q => lookA d q with
  | some (some r) => .ok (.st r) ρ3
  | some none => .ok z ρ3
  | none => .bad else .bad
/-- d.get(k) -/
def dget1F (fa fb : EF) : EF := fun ρ => (fa ρ).bind fun x ρ1 => if ((x.get ρ1).map isDict) = some true then (fb ρ1).bind fun y ρ2 =>
  match (x.get ρ2).bind fun d => (y.get ρ2).bind fun q => lookA d q with
  | some (some r) => .ok (.st r) ρ2
  | some none => .ok (.st .none) ρ2
  | none => .bad else .bad
theorem pd_dget2 (hu : X.A.units + 64 < cLine) (ha : PD X B W a fa) (hb : PD X B W b fb) (hc : PD X B W c fc) (m : M2 X a "get" apos b c cpos) : PD X B W (.Call (.Attribute a "get" apos) [b, c] [] cpos) (dget2F fa fb fc) :=
  PE.imp (pe_dget2 (by omega) ha hb hc m) fun σ H Q ⟨Hs, ρ, sl, q⟩ => by
  refine ⟨Hs, ρ, sl, OP.imp (OP.bind q) fun x ρ1 Hs1 H1 _ sl1 e1 q1 v hv => ?_⟩
  by_cases c1 : ((x.get ρ1).map isDict) = some true
  · rw [if_pos c1] at q1
    obtain ⟨d1, ed1, c2⟩ := Option.map_eq_some_iff.mp c1
    obtain ⟨p, rfl, isd⟩ := (sl1.look hv ed1).isd sl1.sub c2
    refine ⟨p, rfl, isd, Hs1, ρ1, sl1, OP.imp (OP.bind q1) fun y ρ2 Hs2 H2 _ sl2 e2 q2 w hw => ⟨Hs2, ρ2, sl2, OP.imp (OP.bind q2) fun z ρ3 Hs3 H3 _ sl3 e3 q3 t ht => ?_⟩⟩
    have hv3 : VlOk X.K Hs3 σ (.ref p) x := hv.mono (e2.trans e3)
    have hw3 : VlOk X.K Hs3 σ w y := hw.mono e3
    cases ex : x.get ρ3 with
    | none => rw [ex] at q3; exact q3.elim
    | some d =>
      rw [ex, Option.bind_some] at q3
      cases ey : y.get ρ3 with
      | none => rw [ey] at q3; exact q3.elim
      | some k =>
        rw [ey, Option.bind_some] at q3
        cases el : lookA d k with
        | none => rw [el] at q3; exact q3.elim
        | some o =>
          rw [el] at q3
          obtain ⟨a', zz, ea, g, h1, h2⟩ := look_at sl3.sub (sl3.look hv3 ex) (sl3.look hw3 ey) el
          cases ea
          cases o with
          | none =>
            rw [h1 rfl] at g
            exact ⟨none, g, q3 Hs3 H3 sl3 (.refl _) t ht⟩
          | some r =>
            obtain ⟨vv, rfl, rr⟩ := h2 r rfl
            exact ⟨some vv, g, q3 Hs3 H3 sl3 (.refl _) vv rr⟩
  · rw [if_neg c1] at q1; exact q1.elim
theorem pd_dget1 (hu : X.A.units + 64 < cLine) (ha : PD X B W a fa) (hb : PD X B W b fb) (m : M1 X a "get" apos b cpos) : PD X B W (.Call (.Attribute a "get" apos) [b] [] cpos) (dget1F fa fb) :=
  PE.imp (pe_dget1 (by omega) ha hb m) fun σ H Q ⟨Hs, ρ, sl, q⟩ => by
  refine ⟨Hs, ρ, sl, OP.imp (OP.bind q) fun x ρ1 Hs1 H1 _ sl1 e1 q1 v hv => ?_⟩
  by_cases c1 : ((x.get ρ1).map isDict) = some true
  · rw [if_pos c1] at q1
    obtain ⟨d1, ed1, c2⟩ := Option.map_eq_some_iff.mp c1
    obtain ⟨p, rfl, isd⟩ := (sl1.look hv ed1).isd sl1.sub c2
    refine ⟨p, rfl, isd, Hs1, ρ1, sl1, OP.imp (OP.bind q1) fun y ρ2 Hs2 H2 _ sl2 e2 q2 w hw => ?_⟩
    have hv2 : VlOk X.K Hs2 σ (.ref p) x := hv.mono e2
    cases ex : x.get ρ2 with
    | none => rw [ex] at q2; exact q2.elim
    | some d =>
      rw [ex, Option.bind_some] at q2
      cases ey : y.get ρ2 with
      | none => rw [ey] at q2; exact q2.elim
      | some k =>
        rw [ey, Option.bind_some] at q2
        cases el : lookA d k with
        | none => rw [el] at q2; exact q2.elim
        | some o =>
          rw [el] at q2
          obtain ⟨a', zz, ea, g, h1, h2⟩ := look_at sl2.sub (sl2.look hv2 ex) (sl2.look hw ey) el
          cases ea
          cases o with
          | none =>
            rw [h1 rfl] at g
            exact ⟨none, g, q2 Hs2 H2 sl2 (.refl _) .non .non⟩
          | some r =>
            obtain ⟨vv, rfl, rr⟩ := h2 r rfl
            exact ⟨some vv, g, q2 Hs2 H2 sl2 (.refl _) vv rr⟩
  · rw [if_neg c1] at q1; exact q1.elim
/-! ### d[k] = v -/
def dputD (d q v : D) : Option D := match q with
  | .tuple ks => (asT d).bind fun kvs => (keyL ks).bind fun _ => if kvs.length < 100000 then some (.dict (tagT :: putD kvs q v)) else none
  | q => (asK d).bind fun kvs => (key1 q).bind fun _ => if kvs.length < 100000 then some (.dict (putD kvs q v)) else none
theorem put_at {K : Fg} {Hs H : Hp} {p : Addr} {y v : V} {d q x d' : D} (e : Same Hs H) (n : Hs p = none) (cn : Cont K Hs H p d) (sy : Shal K Hs H y q) (rv : Rep K Hs v x) (h : dputD d q x = some d') :
    ∃ o, DPut H p y v (upd H p o) ∧ Cont K Hs (upd H p o) p d' := by
  unfold dputD at h
  split at h
  · rename_i qs
    cases e1 : asT d with
    | none => rw [e1] at h; cases h
    | some kvs =>
      rw [e1, Option.bind_some] at h
      cases e2 : keyL qs with
      | none => rw [e2] at h; cases h
      | some k =>
        rw [e2, Option.bind_some] at h
        by_cases c : kvs.length < 100000
        · rw [if_pos c] at h; cases h
          obtain rfl := asT_eq e1
          obtain ⟨b, vs, rfl, hb, rk⟩ := sy.tupH e
          obtain rfl := keyL_eq e2
          rw [rk.keys] at hb
          rcases cn with ⟨ks, a, r⟩ | ⟨ks, es, ee, a, r⟩
          · exact absurd rfl (r.nobool _ _ _)
          · cases ee
            exact ⟨_, .inr ⟨ks, k, b, a, rfl, hb, by have := r.length; rw [sizeLine_eq]; omega, rfl⟩, .inr ⟨_, _, rfl, upd_same, r.put rv⟩⟩
        · rw [if_neg c] at h; cases h
  · rename_i nt
    cases e1 : asK d with
    | none => rw [e1] at h; cases h
    | some kvs =>
      rw [e1, Option.bind_some] at h
      cases e2 : key1 q with
      | none => rw [e2] at h; cases h
      | some k =>
        rw [e2, Option.bind_some] at h
        by_cases c : kvs.length < 100000
        · rw [if_pos c] at h; cases h
          obtain ⟨rfl, n1, n2⟩ := asK_eq e1
          obtain rfl := sy.keyAt e2
          have eq := key1_eq e2
          subst eq
          rcases cn with ⟨ks, a, r⟩ | ⟨ks, es, rfl, a, r⟩
          · exact ⟨_, .inl ⟨ks, k, a, rfl, by have := r.length; rw [sizeLine_eq]; omega, rfl⟩, .inl ⟨_, upd_same, r.put rv⟩⟩
          · exact absurd rfl (n2 _ _ _)
        · rw [if_neg c] at h; cases h
/-- x[k] = e, x one's own dict -/
def dputS (i : Nat) (fk fv : EF) : SF := fun ρ => (fv ρ).then fun x ρ1 => match x, ρ1[i]? with
  | .st v, some s0 => if s0.shal = true then (fk ρ1).then fun y ρ2 => match ρ2[i]? with
    | some s => (match (s.cont).bind fun d => (y.get ρ2).bind fun q => dputD d q v with
      | some d' => .nx (ρ2.set i (s.put d'))
      | none => .bad)
    | none => .bad else .bad
  | _, _ => .bad
theorem psd_dput {i : Nat} {ps : Pos} (hu : X.A.units + 64 < cLine) (ho : PE X a (tVar i)) (hk : PD X B W b fb) (hv : PD X B W c fc) (hs : swapsWith c (some (.Subscript a b ps)) pos.line X.env = pure false := by rfl) :
    PSD X B W (.Assign [.Subscript a b ps] c pos) (dputS i fb fc) := PS.imp (ps_dput (by omega) ho hk hv hs) fun D' σ H ⟨Hs, ρ, sl, q⟩ => by
  refine ⟨Hs, ρ, sl, OP.imp (OP.stm q) fun x ρ1 Hs1 H1 _ sl1 e1 q1 u hu => ?_⟩
  cases x <;> first | exact q1.elim | skip
  rename_i v ex0
  clear ex0
  cases e0 : ρ1[i]? with
  | none => rw [e0] at q1; exact q1.elim
  | some s0 =>
    rw [e0] at q1
    dsimp only at q1
    by_cases hm : s0.shal = true
    · rw [if_pos hm] at q1
      obtain ⟨d0, hd0⟩ : ∃ d, s0.cont = some d := by cases s0 <;> first | (cases hm; done) | exact ⟨_, rfl⟩
      obtain ⟨pp, ep, _, _, _⟩ := own_at sl1 e0 hd0
      refine ⟨_, ep, Hs1, ρ1, sl1, OP.imp (OP.stm q1) fun y ρ2 Hs2 H2 _ sl2 e2 q2 w hw => ?_⟩
      cases e3 : ρ2[i]? with
      | none => rw [e3] at q2; exact q2.elim
      | some s =>
        rw [e3] at q2
        dsimp only at q2
        cases hc : s.cont with
        | none => rw [hc] at q2; exact q2.elim
        | some d =>
          rw [hc, Option.bind_some] at q2
          cases ey : y.get ρ2 with
          | none => rw [ey] at q2; exact q2.elim
          | some k =>
            rw [ey, Option.bind_some] at q2
            cases ed : dputD d k v with
            | none => rw [ed] at q2; exact q2.elim
            | some d' =>
              rw [ed] at q2
              obtain ⟨p2, ep2, n2, cn, _⟩ := own_at sl2 e3 hc
              rw [ep] at ep2
              cases ep2
              obtain ⟨o, g, cn'⟩ := put_at sl2.sub n2 cn (sl2.look hw ey) (Rep.mono e2 hu) ed
              exact ⟨pp, _, rfl, g, q2 σ Hs2 _ (sl2.upd e3 hc ep n2 cn') (.refl _)⟩
    · rw [if_neg hm] at q1; exact q1.elim
/-! ### displays -/
def dnewC : CF := fun ρ => .ok (.dict []) ρ
def dnewT : CF := fun ρ => .ok (.dict [tagT]) ρ
theorem pc_dnewK : PC' X B W (.Dict [] [] pos) dnewC := PE.imp pe_dnewK fun σ H Q ⟨Hs, ρ, sl, q⟩ => fun p np => by
  have g : Grow Hs H Hs (upd H p (.dK [])) := Grow.loose sl.sub np
  obtain ⟨f1, f2, f3⟩ := sl.fresh np
  exact q _ _ (sl.grow g) (.refl _) p f1 f2 (f3.grow sl g) (.inl ⟨[], upd_same, .nil⟩)
theorem pc_dnewT : PC' X B W (.Dict [] [] pos) dnewT := PE.imp pe_dnewT fun σ H Q ⟨Hs, ρ, sl, q⟩ => fun p np => by
  have g : Grow Hs H Hs (upd H p (.dT [])) := Grow.loose sl.sub np
  obtain ⟨f1, f2, f3⟩ := sl.fresh np
  exact q _ _ (sl.grow g) (.refl _) p f1 f2 (f3.grow sl g) (.inr ⟨[], [], rfl, upd_same, .nil⟩)
end
end DL

/-! DD3 -/
namespace DL
open PySem PySem.Spec PyProof.Rows L2

/-! ### {k: v}, k a tuple -/
def tOneT (tk tv : TE) : TE := fun σ H Q => ∀ p, H p = none → tk σ (upd H p (.dT [])) fun x H1 => tv σ H1 fun y H2 => H2 p = some (.dT []) ∧ ∃ b k, x = .ref b ∧ H2 b = some (.tup (k.map kV)) ∧ Q (.ref p) (upd H2 p (.dT [(k, y)]))
theorem pe_oneT {X : Cx} {a b : Expr} {pos : Pos} {tk tv : TE} (hu : X.A.units + 64 < cLine) (hk : PE X a tk) (hv : PE X b tv) : PE X (.Dict [some a] [b] pos) (tOneT tk tv) := ⟨fun pins s σ H Q I q => by
  have n0 := I.hok.fresh (Nat.le_refl s.heap.objs.size)
  have I0 := I.laid (a := s.heap.objs.size) (o := .dT []) (h' := s.heap.push { cls := .type "dict", data := .dict #[] }) (t' := s.toks) (fun _ _ z => Heap.get?_push_of_some _ z) (Nat.le_refl _) (dt_empty s.heap I.big)
  have q0 := q _ n0
  refine wpAny_Dict_any rfl rfl (by simp) (by show 1 ≤ 15; decide) (pairTrees_cons_walk (thn (hk.run pins _ σ _ _ I0 q0) fun u s1 ⟨x, H1, I1, rx, q1⟩ => thn (hv.run pins s1 σ H1 _ I1 q1) fun w s2 ⟨y, H2, I2, ry, e, c, k, ex, ec, q2⟩ => pairTrees_nil_walk ?_))
  subst ex
  obtain rfl : u = Value.ref c := rx
  obtain ⟨z, hd, xs, rel, dd⟩ := dt_of I2.hok e
  cases rel
  unfold storeAll
  rw [List.forIn_cons]
  refine wpAny_bind (wpAny_bind (wpAny_dictSet_heap (hsz := Nat.zero_le _) (knd := tupleKind (mixKind X.prog X.w)) (k := k) (by show X.A.units < cLine; omega) (key_of I2.hok ec) dd fun h1 d1 s1 => wpAny_pure ?_))
  dsimp only
  rw [List.forIn_nil]
  refine wpAny_pure ⟨.ref s.heap.objs.size, _, ?_, rfl, q2⟩
  obtain ⟨o, es, ep, ho, e1, e2, e3, _, e4⟩ := d1
  refine d_write I2 (by rw [e]; exact True.intro) s1 ⟨o, ho⟩ ⟨by rw [sizeLine_eq]; show 1 ≤ 16777216; decide, hd, _, Paired.cons ⟨rfl, ?_, ry⟩ .nil, o, es, ep, ho, e1, e2, e3, e4⟩
  rw [upd_ne (ne_of ec e (fun z => nomatch z))]
  exact ec⟩
/-- the base also holds p as it stands -/
def Bs.hold (B : Bs) (p : Addr) (o : HO) : Bs := { B with H0 := L2.upd B.H0 p o }
section
variable {K : Fg} {B : Bs} {Hs H : Hp} {σ : L2.St} {ρ : En}
theorem Bs.hold_nw {p a : Addr} {o : HO} (h : (B.hold p o).nw a) : B.nw a := by
  rcases h with h | h
  · by_cases e : a = p
    · subst e
      have z : L2.upd B.H0 a o a = none := h
      rw [upd_same] at z; cases z
    · have z : L2.upd B.H0 p o a = none := h
      rw [upd_ne e] at z
      exact .inl z
  · exact .inr h
theorem Bs.nw_hold {p a : Addr} {o : HO} (e : a ≠ p) (h : B.nw a) : (B.hold p o).nw a := by
  rcases h with h | h
  · exact .inl (by show L2.upd B.H0 p o a = none; rw [upd_ne e]; exact h)
  · exact .inr h
theorem Feet.hold {p : Addr} {o : HO} {x : Option V} {s : Slot} {f : List Addr} (h : Feet K B Hs H x s f) (n : p ∉ f) : Feet K (B.hold p o) Hs H x s f := by
  have ne : ∀ a ∈ f, a ≠ p := fun a m e => n (e ▸ m)
  cases s with
  | tre d => obtain ⟨q, e, t, z⟩ := h; exact ⟨q, e, t, fun a m => Bs.nw_hold (ne a m) (z a m)⟩
  | atr d => obtain ⟨q, e, t, r, z⟩ := h; exact ⟨q, e, t, r, fun a m => (z a m).imp (Bs.nw_hold (ne a m)) id⟩
  | gho k d => obtain ⟨q, e, t, z⟩ := h; exact ⟨q, e, t, fun a m => (z a m).imp (Bs.nw_hold (ne a m)) id⟩
  | tab T => exact ⟨h.1, fun a m => (h.2 a m).imp (Bs.nw_hold (ne a m)) id⟩
  | _ => exact h
theorem Feet.loose {p : Addr} {o : HO} {x : Option V} {s : Slot} {f : List Addr} (h : Feet K (B.hold p o) Hs H x s f) : Feet K B Hs H x s f := by
  cases s with
  | tre d => obtain ⟨q, e, t, z⟩ := h; exact ⟨q, e, t, fun a m => Bs.hold_nw (z a m)⟩
  | atr d => obtain ⟨q, e, t, r, z⟩ := h; exact ⟨q, e, t, r, fun a m => (z a m).imp Bs.hold_nw id⟩
  | gho k d => obtain ⟨q, e, t, z⟩ := h; exact ⟨q, e, t, fun a m => (z a m).imp Bs.hold_nw id⟩
  | tab T => exact ⟨h.1, fun a m => (h.2 a m).imp Bs.hold_nw id⟩
  | _ => exact h
theorem SlotOk.hold {p : Addr} {o : HO} {x : Option V} {s : Slot} {f : List Addr} (k : SlotOk K B Hs H x s) (h : Feet K B Hs H x s f) (n : p ∉ f) : SlotOk K (B.hold p o) Hs H x s := by
  have ne : ∀ a ∈ f, a ≠ p := fun a m e => n (e ▸ m)
  cases s with
  | own d =>
    obtain ⟨q, e, n1, z, c⟩ := k
    obtain ⟨q2, e2, rfl⟩ := h
    rw [e] at e2; cases e2
    exact ⟨q, e, n1, Bs.nw_hold (ne q (List.mem_singleton_self q)) z, c⟩
  | arg d =>
    obtain ⟨q, e, n1, ⟨r, z⟩, c⟩ := k
    obtain ⟨q2, e2, rfl⟩ := h
    rw [e] at e2; cases e2
    exact ⟨q, e, n1, ⟨r, z.imp (Bs.nw_hold (ne q (List.mem_singleton_self q))) id⟩, c⟩
  | tre d => obtain ⟨q, e, t, z⟩ := h; exact ⟨q, f, e, t, fun a m => Bs.nw_hold (ne a m) (z a m)⟩
  | atr d => obtain ⟨q, e, t, r, z⟩ := h; exact ⟨q, f, e, t, r, fun a m => (z a m).imp (Bs.nw_hold (ne a m)) id⟩
  | gho j d => obtain ⟨q, e, t, z⟩ := h; exact ⟨q, f, e, t, fun a m => (z a m).imp (Bs.nw_hold (ne a m)) id⟩
  | tab T => exact ⟨f, h.1, fun a m => (h.2 a m).imp (Bs.nw_hold (ne a m)) id⟩
  | _ => exact k
theorem SlotOk.loose {p : Addr} {o : HO} {x : Option V} {s : Slot} (k : SlotOk K (B.hold p o) Hs H x s) : SlotOk K B Hs H x s := by
  cases s with
  | own d => obtain ⟨q, e, n1, z, c⟩ := k; exact ⟨q, e, n1, Bs.hold_nw z, c⟩
  | arg d => obtain ⟨q, e, n1, ⟨r, z⟩, c⟩ := k; exact ⟨q, e, n1, ⟨r, z.imp Bs.hold_nw id⟩, c⟩
  | tre d => obtain ⟨q, f, e, t, z⟩ := k; exact ⟨q, f, e, t, fun a m => Bs.hold_nw (z a m)⟩
  | atr d => obtain ⟨q, f, e, t, r, z⟩ := k; exact ⟨q, f, e, t, r, fun a m => (z a m).imp Bs.hold_nw id⟩
  | gho j d => obtain ⟨q, f, e, t, z⟩ := k; exact ⟨q, f, e, t, fun a m => (z a m).imp Bs.hold_nw id⟩
  | tab T => obtain ⟨f, t, z⟩ := k; exact ⟨f, t, fun a m => (z a m).imp Bs.hold_nw id⟩
  | _ => exact k
/-- p is nobody's: the base takes it -/
theorem Sl.hold {p : Addr} {o : HO} (sl : Sl K B Hs H σ ρ) (hp : H p = some o) (n : Hs p = none) (nb : Nob K B Hs H σ ρ p) : Sl K (B.hold p o) Hs H σ ρ := by
  obtain ⟨F, fe, nF⟩ := nb
  exact {
    len := sl.len
    ok := fun i x s a b => (sl.ok i x s a b).hold (fe.at_ i x s a b) (nF i)
    sub := sl.sub
    base := sl.base
    new := fun a => by
      by_cases e : a = p
      · subst e; exact .inl n
      · exact (sl.new a).imp id fun z => z.imp id fun z => z.imp (Bs.nw_hold e) id
    keep := fun a u e h1 h2 => by
      have z : L2.upd B.H0 p o a = some u := e
      by_cases q : a = p
      · subst q; rw [upd_same] at z; rw [← z]; exact hp
      · rw [upd_ne q] at z; exact sl.keep a u z h1 h2
    there := sl.there
    feet := ⟨F, fun i x s a b => (fe.at_ i x s a b).hold (nF i), fe.out, fe.dis⟩ }
/-- .. and lets it go: it stood still, and is nobody's -/
theorem Sl.loose {p : Addr} {o : HO} (sl : Sl K (B.hold p o) Hs H σ ρ) (nt : ∀ xs, o ≠ .tup xs) (n0 : B.H0 p = none) (o0 : ¬ B.own0 p) (o1 : ¬ B.own1 p) (s0 : B.Hs0 p = none) :
    Sl K B Hs H σ ρ ∧ H p = some o ∧ Hs p = none ∧ Nob K B Hs H σ ρ p := by
  have hp : H p = some o := sl.keep p o (by show L2.upd B.H0 p o p = _; exact upd_same) o0 o1
  have nn : ¬ (B.hold p o).nw p := fun z => by
    rcases z with z | z
    · have z : L2.upd B.H0 p o p = none := z
      rw [upd_same] at z; cases z
    · exact o1 z
  have n : Hs p = none := by
    rcases sl.new p with z | z | z
    · exact z
    · exact absurd s0 z
    · exact (z.elim nn fun ⟨xs, t⟩ => nt xs (Option.some.inj (hp.symm.trans t))).elim
  obtain ⟨F, fe⟩ := sl.feet
  have nF : ∀ i, p ∉ F i := fun i m => by
    cases e : ρ[i]? with
    | none => rw [fe.out i e] at m; cases m
    | some s =>
      obtain ⟨x, ex⟩ := sl_var sl e
      have ft := fe.at_ i x s ex e
      have ok := sl.ok i x s ex e
      cases s with
      | own d =>
        obtain ⟨q, e1, e2⟩ := ft
        obtain ⟨q2, e3, _, z, _⟩ := ok
        rw [e1] at e3; cases e3
        rw [e2, List.mem_singleton] at m; subst m
        exact nn z
      | arg d =>
        obtain ⟨q, e1, e2⟩ := ft
        obtain ⟨q2, e3, _, ⟨_, z⟩, _⟩ := ok
        rw [e1] at e3; cases e3
        rw [e2, List.mem_singleton] at m; subst m
        exact z.elim nn o0
      | tre d => obtain ⟨q, e1, t, z⟩ := ft; exact nn (z p m)
      | atr d => obtain ⟨q, e1, t, r, z⟩ := ft; exact (z p m).elim nn o0
      | gho j d => obtain ⟨q, e1, t, z⟩ := ft; exact (z p m).elim nn o0
      | tab T => exact (ft.2 p m).elim nn o0
      | un => have ft : F i = [] := ft; rw [ft] at m; cases m
      | val d => have ft : F i = [] := ft; rw [ft] at m; cases m
      | fn d => have ft : F i = [] := ft; rw [ft] at m; cases m
  refine ⟨{
    len := sl.len
    ok := fun i x s a b => (sl.ok i x s a b).loose
    sub := sl.sub
    base := sl.base
    new := fun a => (sl.new a).imp id fun z => z.imp id fun z => z.imp Bs.hold_nw id
    keep := fun a u e h1 h2 => by
      have q : a ≠ p := fun z => by subst z; rw [n0] at e; cases e
      exact sl.keep a u (by show L2.upd B.H0 p o a = _; rw [upd_ne q]; exact e) h1 h2
    there := sl.there
    feet := ⟨F, fun i x s a b => (fe.at_ i x s a b).loose, fe.out, fe.dis⟩ }, hp, n, F, ⟨fun i x s a b => (fe.at_ i x s a b).loose, fe.out, fe.dis⟩, nF⟩
/-- nobody's object changes -/
theorem Sl.reloose {p : Addr} {o : HO} (sl : Sl K B Hs H σ ρ) (n : Hs p = none) (nb : Nob K B Hs H σ ρ p) (n0 : B.H0 p = none) (nt : ¬ TupAt H p) : Sl K B Hs (L2.upd H p o) σ ρ ∧ Nob K B Hs (L2.upd H p o) σ ρ p := by
  obtain ⟨F, fe, nF⟩ := nb
  have st : ∀ i, ∀ c ∈ F i, ∀ u, H c = some u → L2.upd H p o c = some u := fun i c m u e => by
    have q : c ≠ p := fun z => nF i (by rw [← z]; exact m)
    rw [upd_ne q]
    exact e
  have ft : FeetOk K B Hs (L2.upd H p o) σ ρ F := ⟨fun i x s a b => (fe.at_ i x s a b).mono (.refl _) (st i) (fun _ _ z => z), fe.out, fe.dis⟩
  exact ⟨{
    len := sl.len
    ok := fun i x s a b => (sl.ok i x s a b).stays (fe.at_ i x s a b) (.refl _) (st i) fun _ _ z => z
    sub := same_into sl.sub n
    base := sl.base
    new := fun a => (sl.new a).imp id fun q => q.imp id fun q => q.imp id fun ⟨xs, t⟩ => ⟨xs, by rw [upd_ne (fun z => nt ⟨xs, by rw [← z]; exact t⟩)]; exact t⟩
    keep := fun a u e h1 h2 => by
      have q : a ≠ p := fun z => by subst z; rw [n0] at e; cases e
      rw [upd_ne q]
      exact sl.keep a u e h1 h2
    there := fun a w => by
      by_cases q : a = p
      · subst q; exact ⟨_, upd_same⟩
      · rw [upd_ne q]; exact sl.there a w
    feet := ⟨F, ft⟩ }, F, ft, nF⟩
end
/-- {k: e}, k a tuple -/
def oneT (fk fv : EF) : CF := fun ρ => (fk ρ).bind fun x ρ1 => (fv ρ1).bind fun y ρ2 => match x, y with
  | .st q, .st v => opt (dputD (.dict [tagT]) q v) ρ2
  | _, _ => .bad
section
variable {X : Cx} {B : Bs} {W : WX} {a b : Expr} {fa fb : EF} {pos : Pos}
theorem OP.hold {K : Fg} {mg : MG} {B : Bs} {W : WX} {σ : L2.St} {Hs : Hp} {α : Type} {P : α → En → Hp → Hp → Prop} {o : O α} {p : Addr} {u : HO} (h : OP K mg B W σ Hs P o) (nt : ∀ xs, u ≠ .tup xs) (n0 : B.H0 p = none) (o0 : ¬ B.own0 p) (o1 : ¬ B.own1 p) (s0 : B.Hs0 p = none) :
    OP K mg (B.hold p u) W σ Hs (fun x r Hs' H' => P x r Hs' H' ∧ Sl K B Hs' H' σ r ∧ H' p = some u ∧ Hs' p = none ∧ Nob K B Hs' H' σ r p) o := by
  cases o with
  | ok x r => exact fun Hs' H' sl e => let ⟨a, b⟩ := sl.loose nt n0 o0 o1 s0; ⟨h Hs' H' a e, a, b⟩
  | er z r => exact fun cls od Hs' H' sl e k => h cls od Hs' H' (sl.loose nt n0 o0 o1 s0).1 e k
  | bad => exact h
theorem pc_oneT (hu : X.A.units + 64 < cLine) (hk : ∀ B, PD X B W a fa) (hv : ∀ B, PD X B W b fb) : PC' X B W (.Dict [some a] [b] pos) (oneT fa fb) :=
  PE.imp (pe_oneT hu (pdA hk) (pdA hv)) fun σ H Q ⟨Hs, ρ, sl, q⟩ => fun p np => by
  have g : Grow Hs H Hs (upd H p (.dT [])) := Grow.loose sl.sub np
  obtain ⟨f1, f2, f3⟩ := sl.fresh np
  have o0 : ¬ B.own0 p := fun z => by obtain ⟨u, e⟩ := sl.there p (.inl z); rw [np] at e; cases e
  have o1 : ¬ B.own1 p := fun z => by obtain ⟨u, e⟩ := sl.there p (.inr z); rw [np] at e; cases e
  have n0 : B.H0 p = none := f2.elim id fun z => absurd z o1
  have s0 : B.Hs0 p = none := by
    cases e : B.Hs0 p with
    | none => rfl
    | some u => have := sl.base _ _ e; rw [f1] at this; cases this
  have sl1 := (sl.grow g).hold (p := p) (o := .dT []) upd_same f1 (f3.grow sl g)
  refine ⟨B.hold p (.dT []), Hs, ρ, sl1, OP.imp ((OP.bind q).hold (u := .dT []) (fun _ => nofun) n0 o0 o1 s0) fun x ρ1 Hs1 H1 _ sl2 e1 ⟨q1, k1, k2, k3, k4⟩ v hv => ?_⟩
  refine ⟨B.hold p (.dT []), Hs1, ρ1, sl2, OP.imp ((OP.bind q1).hold (u := .dT []) (fun _ => nofun) n0 o0 o1 s0) fun y ρ2 Hs2 H2 _ sl3 e2 ⟨q2, l1, l2, l3, l4⟩ w hw => ⟨l2, ?_⟩⟩
  obtain ⟨d1, rfl⟩ : ∃ d, x = .st d := by cases x with
    | st d => exact ⟨d, rfl⟩
    | _ => exact q2.elim
  obtain ⟨d2, rfl⟩ : ∃ d, y = .st d := by cases y with
    | st d => exact ⟨d, rfl⟩
    | _ => exact q2.elim
  unfold dputD at q2
  obtain ⟨ks, rfl⟩ : ∃ ks, d1 = .tuple ks := by cases d1 with
    | tuple ks => exact ⟨ks, rfl⟩
    | _ => exact q2.elim
  have ta : asT (.dict [tagT]) = some [] := rfl
  rw [ta] at q2
  dsimp only [Option.bind_some] at q2
  cases e5 : keyL ks with
  | none => rw [e5] at q2; exact q2.elim
  | some k =>
    rw [e5, Option.bind_some, if_pos (show ([] : List (D × D)).length < 100000 by decide)] at q2
    have hv2 : Rep X.K Hs2 v (.tuple ks) := Rep.mono e2 hv
    obtain ⟨c, vs, rfl, hc, rk⟩ := Shal.tupH (H := H2) (.inl hv2) l1.sub
    obtain rfl := keyL_eq e5
    rw [rk.keys] at hc
    obtain ⟨m1, m2⟩ := l1.reloose (o := .dT [(k, w)]) l3 l4 n0 (fun ⟨_, t⟩ => by rw [l2] at t; cases t)
    exact ⟨c, k, rfl, hc, q2 Hs2 _ m1 (.refl _) p l3 f2 m2 (.inr ⟨_, _, rfl, upd_same, .cons hw .nil⟩)⟩
end
end DL

/-! DS -/
namespace DL
open PySem PySem.Spec PyProof.Rows L2

/-! ### min, max of two; sorted ints -/
def min2D : List D → Option D
  | [.int i, .int j] => some (.int (if j < i then j else i))
  | _ => none
def max2D : List D → Option D
  | [.int i, .int j] => some (.int (if j > i then j else i))
  | _ => none
def insI (x : Int) : List Int → List Int
  | [] => [x]
  | y :: ys => if x ≤ y then x :: y :: ys else y :: insI x ys
def isort : List Int → List Int
  | [] => []
  | x :: xs => insI x (isort xs)
theorem insI_perm (x : Int) : ∀ l : List Int, (insI x l).Perm (x :: l)
  | [] => .refl _
  | y :: ys => by
    unfold insI
    split
    · exact .refl _
    · exact ((insI_perm x ys).cons y).trans (.swap x y ys)
theorem isort_perm : ∀ l : List Int, (isort l).Perm l
  | [] => .refl _
  | x :: xs => (insI_perm x (isort xs)).trans ((isort_perm xs).cons x)
theorem insI_sorted (x : Int) : ∀ {l : List Int}, l.Pairwise (· ≤ ·) → (insI x l).Pairwise (· ≤ ·)
  | [], _ => by simp [insI]
  | y :: ys, h => by
    unfold insI
    have h2 := List.pairwise_cons.mp h
    split
    · rename_i q
      exact List.pairwise_cons.mpr ⟨fun z m => by
        rcases List.mem_cons.mp m with rfl | m
        · exact q
        · exact Int.le_trans q (h2.1 z m), h⟩
    · rename_i q
      refine List.pairwise_cons.mpr ⟨fun z m => ?_, insI_sorted x h2.2⟩
      rcases List.mem_cons.mp ((insI_perm x ys).mem_iff.mp m) with rfl | m
      · omega
      · exact h2.1 z m
theorem isort_sorted : ∀ l : List Int, (isort l).Pairwise (· ≤ ·)
  | [] => .nil
  | x :: xs => insI_sorted x (isort_sorted xs)
theorem sorted_one : ∀ {a b : List Int}, a.Perm b → a.Pairwise (· ≤ ·) → b.Pairwise (· ≤ ·) → a = b
  | [], b, p, _, _ => by rw [List.nil_perm.mp p]
  | x :: a, [], p, _, _ => by have := p.length_eq; simp at this
  | x :: a, y :: b, p, s, t => by
    obtain ⟨s1, s2⟩ := List.pairwise_cons.mp s
    obtain ⟨t1, t2⟩ := List.pairwise_cons.mp t
    have e : x = y := by
      have h1 : x ∈ y :: b := p.mem_iff.mp (List.mem_cons_self ..)
      have h2 : y ∈ x :: a := p.mem_iff.mpr (List.mem_cons_self ..)
      rcases List.mem_cons.mp h1 with z | z
      · exact z
      · rcases List.mem_cons.mp h2 with w | w
        · exact w.symm
        · have := t1 x z
          have := s1 y w
          omega
    subst e
    rw [sorted_one (List.Perm.cons_inv p) s2 t2]
def sortD : D → Option D
  | .list ds => (intsOf ds).map fun ns => .list ((isort ns).map PyData.int)
  | _ => none
section
variable {X : Cx}
theorem two_vals {K : Fg} {g : List D → Option D} {vs : List V} {H : Hp} {Q : VK} {i j : Int} (f : Int → Int → Int) (hg : ∀ ds z, g ds = some z → ∃ i j, ds = [.int i, .int j] ∧ z = .int (f i j)) (h : rXc K g vs H Q) : ∃ i j, vs = [.int i, .int j] ∧ Q (.int (f i j)) H := by
  obtain ⟨Hs, ds, z, sm, r, l, eg, q⟩ := h
  obtain ⟨i, j, rfl, rfl⟩ := hg ds z eg
  match vs, l with
  | [a, b], _ =>
    have ea := (r 0 a _ rfl rfl).int
    have eb := (r 1 b _ rfl rfl).int
    subst ea eb
    exact ⟨i, j, rfl, q _ Hs H (.refl sm) (.int _)⟩
theorem cx_min2 (hc : X.calm = true) : CallR X (.builtin "min") (rXc X.K min2D) := fun pins s σ H vs us Q I r h =>
  call_min2 hc pins s σ H vs us Q I r (two_vals (i := 0) (j := 0) (fun i j => if j < i then j else i) (fun ds z e => by
    unfold min2D at e
    split at e
    · cases e; exact ⟨_, _, rfl, rfl⟩
    · cases e) h)
theorem cx_max2 (hc : X.calm = true) : CallR X (.builtin "max") (rXc X.K max2D) := fun pins s σ H vs us Q I r h =>
  call_max2 hc pins s σ H vs us Q I r (two_vals (i := 0) (j := 0) (fun i j => if j > i then j else i) (fun ds z e => by
    unfold max2D at e
    split at e
    · cases e; exact ⟨_, _, rfl, rfl⟩
    · cases e) h)
theorem cx_sortI : CallR X (.builtin "sorted") (rXcn X.K (one sortD)) := fun pins s σ H vs us Q I r h => by
  obtain ⟨Hs, ds, z, sm, rs, l, eg, q⟩ := h
  match ds, l, eg with
  | [d], l, eg =>
    match vs, l with
    | [v], _ =>
      have sh := rs 0 v d rfl rfl
      have eg : sortD d = some z := eg
      obtain ⟨ds, rfl⟩ : ∃ ds, d = .list ds := by cases d with
        | list ds => exact ⟨ds, rfl⟩
        | _ => cases eg
      unfold sortD at eg
      dsimp only at eg
      cases ei : intsOf ds with
      | none => rw [ei] at eg; cases eg
      | some ns =>
        rw [ei] at eg
        cases eg
        obtain ⟨p, ws, rfl, e, ra⟩ := sh.lst sm
        have ed := intsOf_map ei
        subst ed
        have ew := ra.ints
        subst ew
        refine cr_sortedI pins s σ H _ us Q I r ⟨p, ns, rfl, .inl (.inl e), fun ns' a pm so na => ?_⟩
        have es : ns' = isort ns := sorted_one (pm.trans (isort_perm ns).symm) so (isort_sorted ns)
        subst es
        exact q a _ na (Grow.loose sm na) ⟨_, upd_same, RepA.of_ints _⟩
end
/-! ### x, y = a, b -/
def parS (i j : Nat) (f : AF) : SF := fun ρ => (f ρ).then fun xs ρ1 => match xs with
  | [.st d, .st e] => .nx ((ρ1.set i (.val d)).set j (.val e))
  | _ => .bad
theorem psd_par {X : Cx} {B : Bs} {W : WX} {i j : Nat} {x y : Str} {a b : Expr} {fa : AF} {px py pt pt2 pos : Pos} {kt k2 : Nat} (hc : X.calm = true) (hN : X.N.Nodup) (hi : X.N[i]? = some x) (hj : X.N[j]? = some y) (hij : i ≠ j)
    (hx : X.env.scope.names.lookup x = some .local) (hy : X.env.scope.names.lookup y = some .local) (ha : PAD X B W [a, b] fa)
    (hw : swappedStores [.Tuple [.Name x px, .Name y py] kt pt] (.Tuple [a, b] k2 pt2) X.env = pure (some [x, y]))
    (hs : swapsWithSole [.Tuple [.Name x px, .Name y py] kt pt] (.Tuple [a, b] k2 pt2) pos.line X.env = pure false := by rfl) :
    PSD X B W (.Assign [.Tuple [.Name x px, .Name y py] kt pt] (.Tuple [a, b] k2 pt2) pos) (parS i j fa) := PS.imp (ps_par hc hN hi hj hij hx hy ha hw hs) fun D' σ H ⟨Hs, ρ, sl, q⟩ => by
  refine ⟨Hs, ρ, sl, OP.imp (OP.stm q) fun xs ρ1 Hs1 H1 _ sl1 e1 q1 vs hvs => ?_⟩
  match xs, hvs, q1 with
  | [.st d, .st e], .cons (v := v) r1 (.cons (v := w) r2 .nil), q1 =>
    have s1 := sl1.store (i := i) (v := v) (s := .val d) ⟨v, rfl, r1⟩ fun z => by cases z
    exact ⟨v, w, rfl, q1 _ Hs1 H1 (s1.store (i := j) (v := w) (s := .val e) ⟨w, rfl, r2⟩ fun z => by cases z) (.refl _)⟩
end DL

/-! DSK -/
namespace DL
open PySem PySem.Spec PyProof.Rows L2

/-! ### sorted pairs -/
abbrev Pr := Int × Int
def leP (p q : Pr) : Bool := !(SrtO.lexB q p)
theorem leP_iff {p q : Pr} : leP p q = true ↔ p.1 < q.1 ∨ (p.1 = q.1 ∧ p.2 ≤ q.2) := by
  have h := SrtO.lexB_iff (p := q) (q := p)
  unfold leP
  cases e : SrtO.lexB q p with
  | true =>
    have := h.mp e
    simp only [Bool.not_true, Bool.false_eq_true, false_iff]
    omega
  | false =>
    have n : ¬ SrtO.lexB q p = true := by rw [e]; decide
    rw [h] at n
    simp only [Bool.not_false, true_iff]
    omega
def insP (x : Pr) : List Pr → List Pr
  | [] => [x]
  | y :: ys => if leP x y = true then x :: y :: ys else y :: insP x ys
def psort : List Pr → List Pr
  | [] => []
  | x :: xs => insP x (psort xs)
theorem insP_perm (x : Pr) : ∀ l : List Pr, (insP x l).Perm (x :: l)
  | [] => .refl _
  | y :: ys => by
    unfold insP
    split
    · exact .refl _
    · exact ((insP_perm x ys).cons y).trans (.swap x y ys)
theorem psort_perm : ∀ l : List Pr, (psort l).Perm l
  | [] => .refl _
  | x :: xs => (insP_perm x (psort xs)).trans ((psort_perm xs).cons x)
theorem insP_sorted (x : Pr) : ∀ {l : List Pr}, l.Pairwise (fun p q => leP p q = true) → (insP x l).Pairwise fun p q => leP p q = true
  | [], _ => by simp [insP]
  | y :: ys, h => by
    unfold insP
    have h2 := List.pairwise_cons.mp h
    split
    · rename_i q
      refine List.pairwise_cons.mpr ⟨fun z m => ?_, h⟩
      rcases List.mem_cons.mp m with rfl | m
      · exact q
      · have a := leP_iff.mp q
        have b := leP_iff.mp (h2.1 z m)
        exact leP_iff.mpr (by omega)
    · rename_i q
      refine List.pairwise_cons.mpr ⟨fun z m => ?_, insP_sorted x h2.2⟩
      rcases List.mem_cons.mp ((insP_perm x ys).mem_iff.mp m) with rfl | m
      · rw [leP_iff] at q
        exact leP_iff.mpr (by omega)
      · exact h2.1 z m
theorem psort_sorted : ∀ l : List Pr, (psort l).Pairwise fun p q => leP p q = true
  | [] => .nil
  | x :: xs => insP_sorted x (psort_sorted xs)
theorem psorted_one : ∀ {a b : List Pr}, a.Perm b → a.Pairwise (fun p q => leP p q = true) → b.Pairwise (fun p q => leP p q = true) → a = b
  | [], b, p, _, _ => by rw [List.nil_perm.mp p]
  | x :: a, [], p, _, _ => by have := p.length_eq; simp at this
  | x :: a, y :: b, p, s, t => by
    obtain ⟨s1, s2⟩ := List.pairwise_cons.mp s
    obtain ⟨t1, t2⟩ := List.pairwise_cons.mp t
    have e : x = y := by
      have h1 : x ∈ y :: b := p.mem_iff.mp (List.mem_cons_self ..)
      have h2 : y ∈ x :: a := p.mem_iff.mpr (List.mem_cons_self ..)
      rcases List.mem_cons.mp h1 with z | z
      · exact z
      · rcases List.mem_cons.mp h2 with w | w
        · exact w.symm
        · have c1 := leP_iff.mp (t1 x z)
          have c2 := leP_iff.mp (s1 y w)
          obtain ⟨x1, x2⟩ := x
          obtain ⟨y1, y2⟩ := y
          simp only at c1 c2
          rw [Prod.mk.injEq]
          omega
    subst e
    rw [psorted_one (List.Perm.cons_inv p) s2 t2]
/-! ### sorted(d), its keys pairs of ints -/
section
variable {prog : Program} {w : World}
theorem srcRaw {d : Addr} {es : Array DictEntry} {ep : Nat} (lo : (d == sysModules) = false) : PySem.W.KdlSrc prog w "dict" d d es.size (fun i v => ∃ hi : i < es.size, v = es[i].key) (fun h => h.DictRaw d es ep) where
  type := fun _ m => m.typeIs
  there := fun _ ⟨_, e, _⟩ => ⟨Heap.lt_size e, Heap.lt_size e⟩
  keep := fun _ _ m k => m.at fun o e => k d (.inl rfl) o e
  notList := by decide
  notTuple := by decide
  hint := fun _ _ _ _ m q => PySem.W.kdl_hint_dict m.typeIs q
  iter := fun _ s hh m => by
    have lt : d < s.heap.objs.size := let ⟨_, e, _⟩ := m; Heap.lt_size e
    exact ⟨_, _, fun _ _ q => wpAny_pyIter_dict_raw lo m q, Walks.rawKeys hh _ d (Nat.ne_of_lt lt) es ep, ⟨_, Heap.get?_push_size _ rfl, rfl, rfl⟩, m.at fun o e => Heap.get?_push_of_some _ e⟩
end
def key2 (p : Pr) : List Key := [.inl p.1, .inl p.2]
def tupP (p : Pr) : HO := .tup [.int p.1, .int p.2]
/-- the pair that stands at v -/
def pairAt (H : Hp) : Value → Pr
  | .ref b => match H b with
    | some (.tup [.int i, .int j]) => (i, j)
    | _ => (0, 0)
  | _ => (0, 0)
def addrOf : Value → Addr
  | .ref b => b
  | _ => 0
theorem pairAt_eq {H : Hp} {b : Addr} {p : Pr} (h : H b = some (tupP p)) : pairAt H (.ref b) = p := by
  unfold pairAt
  dsimp only
  rw [h]
  rfl
def rSortK (K : Fg) : List V → Hp → VK → Prop := fun vs H Q => ∃ (a : Addr) (kvs : List (List Key × V)) (ks : List Pr), vs = [.ref a] ∧ Rd H a (.dT kvs) ∧ kvs.map (·.1) = ks.map key2 ∧
  ∀ (l : Addr) (bs : List Addr), H l = none → bs.map H = (psort ks).map (fun p => some (tupP p)) → Q (.ref l) (upd H l (.lst (bs.map V.ref)))
theorem keys_at {H : Hp} : ∀ {kvs : List (List Key × V)} {xs : List (List Key × Addr × Value)} {ks : List Pr}, KT H kvs xs → kvs.map (·.1) = ks.map key2 → xs.map (fun y => H y.2.1) = ks.map fun p => some (tupP p)
  | _, _, [], .nil, _ => rfl
  | _, _, _ :: _, .nil, e => by cases e
  | _, _, [], .cons _ _, e => by cases e
  | kv :: kvs, y :: xs, p :: ks, .cons h t, e => by
    rw [List.map_cons, List.map_cons] at e
    injection e with e1 e2
    rw [List.map_cons, List.map_cons, keys_at t e2, h.2.1, e1]
    rfl
theorem cr_sortK {X : Cx} (hcalm : X.calm = true) : CallR X (.builtin "sorted") (rSortK X.K) := fun pins s σ H vs us Q I r h => by
  obtain ⟨a, kvs, ks, rfl, rd, hks, q⟩ := h
  obtain ⟨u, rfl, rx⟩ := vals1 r
  obtain rfl : u = .ref a := rx
  obtain ⟨z, lo, xs, rel, dd⟩ := dt_rd I.hok rd
  have hat := keys_at rel hks
  obtain ⟨es, ep, raw, hsz, ent⟩ := dd.raw
  have hl : kvs.length = xs.length := Paired.length rel
  have hk : ks.length = xs.length := by have := congrArg List.length hks; rw [List.length_map, List.length_map] at this; omega
  have hes : es.size ≤ sizeLine := by rw [hsz, ← hl]; exact z
  refine Calls.call_function_entry kind_sorted plain_sorted entry_sorted (args_sorted1 _) ?_; unfold Builtin.«sorted»
  refine wpAny_bind (m := checkCount "sorted" 1 1 _) (wpAny_pure (wpAny_bind (PySem.W.kdu_collect (A := X.A.in1) (srcRaw (ep := ep) lo) (I.ok.hd hcalm) raw hes fun h' tk acc hkeep hacc => ?_)))
  have eacc : acc.toList = xs.map fun y => Value.ref y.2.1 := by
    refine List.ext_getElem? fun j => ?_
    rw [List.getElem?_map]
    by_cases hj : j < xs.length
    · have hj2 : j < acc.size := by rw [hacc.1, hsz]; exact hj
      obtain ⟨hi, ev⟩ := hacc.2 j acc[j] (Array.getElem?_eq_getElem hj2)
      obtain ⟨y, ey, ek, _⟩ := ent j hi
      rw [Array.getElem?_toList, Array.getElem?_eq_getElem hj2, ev, ek, ey]
      rfl
    · rw [List.getElem?_eq_none (by rw [Array.length_toList, hacc.1, hsz]; omega), List.getElem?_eq_none (by omega)]
      rfl
  rw [eacc]
  have len : (xs.map fun y => Value.ref y.2.1).length ≤ sizeLine := by rw [List.length_map, ← hl]; exact z
  refine wpAny_bind (wpAny_newList ?_ len)
  generalize evs : (xs.map fun y => Value.ref y.2.1) = vs at len ⊢
  have evl : vs.length = ks.length := by rw [← evs, List.length_map, hk]
  have at_ : ∀ v ∈ vs, ∃ b p, v = .ref b ∧ H b = some (tupP p) := fun v m => by
    rw [← evs] at m
    obtain ⟨y, my, rfl⟩ := List.mem_map.mp m
    have : H y.2.1 ∈ xs.map fun y => H y.2.1 := List.mem_map.mpr ⟨y, my, rfl⟩
    rw [hat] at this
    obtain ⟨p, _, e⟩ := List.mem_map.mp this
    exact ⟨y.2.1, p, rfl, e.symm⟩
  have kvs_ : vs.map (pairAt H) = ks := by
    rw [← evs, List.map_map]
    have e2 := congrArg (List.map fun o : Option HO => match o with | some (.tup [.int i, .int j]) => ((i, j) : Pr) | _ => (0, 0)) hat
    rw [List.map_map, List.map_map] at e2
    refine Eq.trans ?_ (e2.trans ?_)
    · exact List.map_congr_left fun y _ => rfl
    · exact (List.map_congr_left fun p _ => rfl).trans (List.map_id ks)
  have hoL : (h'.push { cls := .type "list", data := .seq vs.toArray }).get? h'.objs.size = some (seqObj "list" vs.toArray 0) := Heap.get?_push_size _ rfl
  have pair : ∀ v ∈ vs, Srt.IsPair (h'.push { cls := .type "list", data := .seq vs.toArray }) v (pairAt H v).1 (pairAt H v).2 := fun v m => by
    obtain ⟨b, p, rfl, hb⟩ := at_ v m
    rw [pairAt_eq hb]
    obtain ⟨_, its, rv, o, ho, hc, n, hd⟩ := I.hok b _ hb
    obtain ⟨u1, u2, rfl, ⟨t1, rfl⟩, ⟨t2, rfl⟩⟩ := vals2 rv
    exact ⟨b, o, t1, t2, n, rfl, Heap.get?_push_of_some _ (hkeep b o ho), hc, hd⟩
  have I1 : L2.Inv X pins σ H { s with heap := h', toks := tk } := I.kept hkeep
  refine wpAny_bind (wpAny_holding (wpAny_call_entry slot_list_sort ⟨_, hoL, rfl⟩ entry_list_sort (SrtO.list_sort_ord (SrtO.swo_lex (pairAt H)) hoL len (fun h2 => SrtO.pairs_sortableO (by omega) pair fun o e c => ?_) fun out h1 h2 => ⟨_, rfl, ?_⟩) (args_list_sort _)))
  · have e' : some o = some (seqObj "list" vs.toArray 0) := e.symm.trans hoL
    cases e'
    exact absurd (Value.type.inj c) (by decide)
  · have mo : ∀ v ∈ out, ∃ b p, v = .ref b ∧ H b = some (tupP p) := fun v m => at_ v (h2.perm.mem_iff.mp m)
    have es1 : out.map (pairAt H) = psort ks := by
      refine psorted_one ((h2.perm.map (pairAt H)).trans ?_) ?_ (psort_sorted ks)
      · rw [kvs_]; exact (psort_perm ks).symm
      · refine List.pairwise_map.mpr (h1.imp fun {x y} e => ?_)
        unfold leP
        have e : SrtO.lexB (pairAt H y) (pairAt H x) = false := e
        rw [e]
        rfl
    have eb : (out.map addrOf).map H = (psort ks).map fun p => some (tupP p) := by
      rw [← es1, List.map_map, List.map_map]
      refine List.map_congr_left fun v m => ?_
      obtain ⟨b, p, rfl, hb⟩ := mo v m
      show H b = some (tupP (pairAt H (.ref b)))
      rw [pairAt_eq hb, hb]
    have er : out = (out.map addrOf).map Value.ref := by
      rw [List.map_map]
      exact ((List.map_id out).symm.trans (List.map_congr_left fun v m => by
        obtain ⟨b, p, rfl, hb⟩ := mo v m
        rfl))
    obtain ⟨e', he'⟩ := sortedHeap_at (vs := vs) (out := out.toArray) hoL
    have hlen : ((out.map addrOf).map V.ref).length ≤ sizeLine := by rw [List.length_map, List.length_map, h2.perm.length_eq]; exact len
    have rv : Vals ((out.map addrOf).map V.ref) out := by
      conv => rhs; rw [er]
      exact vals_maps V.ref Value.ref _ fun _ _ => rfl
    refine wpAny_pure ⟨_, rfl, .ref h'.objs.size, upd H h'.objs.size (.lst ((out.map addrOf).map V.ref)), I1.laid (t' := tk) (fun b u e => ?_) (Nat.le_refl _) ⟨hlen, out, e', rv, he'⟩, rfl, q _ _ (I1.hok.fresh (Nat.le_refl _)) eb⟩
    have hb : b < h'.objs.size := Heap.lt_size e
    rw [sortedHeap_old (Nat.ne_of_lt hb) (by rw [size_push']; exact Nat.lt_succ_of_lt hb)]
    exact Heap.get?_push_of_some _ e
/-! ### .. as data -/
def prsOf : List (D × D) → Option (List Pr)
  | [] => some []
  | (.tuple [.int i, .int j], _) :: r => (prsOf r).map ((i, j) :: ·)
  | _ => none
def sqP (p : Pr) : D := .tuple [.int p.1, .int p.2]
def sortKF (fa : EF) : CF := fun ρ => (fa ρ).bind fun x ρ1 => match ((x.get ρ1).bind asT).bind prsOf with
  | some ps => .ok (.list ((psort ps).map sqP)) ρ1
  | none => .bad
theorem prs_keys {K : Fg} {H : Hp} : ∀ {ks : List (List Key × V)} {kvs : List (D × D)} {ps : List Pr}, RepT K H ks kvs → prsOf kvs = some ps → ks.map (·.1) = ps.map key2
  | _, _, ps, .nil, e => by cases e; rfl
  | _, _, ps, .cons (k := k) (ks := ks) (kvs := kvs) a b, e => by
    match k, e with
    | [.inl i, .inl j], e =>
      have e : (prsOf kvs).map ((i, j) :: ·) = some ps := e
      cases er : prsOf kvs with
      | none => rw [er] at e; cases e
      | some r =>
        rw [er] at e
        cases e
        rw [List.map_cons, prs_keys b er]
        rfl
    | [], e => cases e
    | [.inl _], e => cases e
    | [.inr _], e => cases e
    | .inr _ :: _ :: _, e => cases e
    | .inl _ :: .inr _ :: _, e => cases e
    | .inl _ :: .inl _ :: _ :: _, e => cases e
theorem RepA.tups {K : Fg} {H : Hp} : ∀ {bs : List Addr} {ps : List Pr}, bs.map H = ps.map (fun p => some (tupP p)) → RepA K H (bs.map V.ref) (ps.map sqP)
  | [], [], _ => .nil
  | [], _ :: _, e => by cases e
  | _ :: _, [], e => by cases e
  | b :: bs, p :: ps, e => by
    rw [List.map_cons, List.map_cons] at e
    injection e with e1 e2
    exact .cons (.tup e1 (.cons (.int _) (.cons (.int _) .nil))) (RepA.tups e2)
theorem pc_sortK {X : Cx} {B : Bs} {W : WX} {e : Expr} {fa : EF} {p pos : Pos} (hc : X.calm = true) (hg : Gl X "sorted") (hm : X.mg "sorted" = none) (ha : PD X B W e fa) (hs : starEach [e] X.env = (false, eval e X.env) :: starEach [] X.env := by rfl)
    (hpl : (backTo pos (starEach ([] : List Expr) X.env)).any (·.1) = false := by rfl) : PC' X B W (.Call (.Name "sorted" p) [e] [] pos) (sortKF fa) :=
  PE.imp (pe_callB (cr_sortK hc) hg hm (by decide +kernel) (pa_cons ha pa_nil hs) (by decide) (by decide) hs hpl) fun σ H Q ⟨Hs, ρ, sl, q⟩ => by
  refine ⟨Hs, ρ, sl, OP.imp (OP.bind q) fun x ρ1 Hs1 H1 _ sl1 e1 q1 v hv => ?_⟩
  cases ex : x.get ρ1 with
  | none => rw [ex] at q1; exact q1.elim
  | some d =>
    rw [ex, Option.bind_some] at q1
    cases ea : asT d with
    | none => rw [ea] at q1; exact q1.elim
    | some kvs =>
      rw [ea, Option.bind_some] at q1
      cases ep : prsOf kvs with
      | none => rw [ep] at q1; exact q1.elim
      | some ps =>
        rw [ep] at q1
        obtain ⟨a, ks, rfl, rd, r⟩ := (sl1.look hv ex).dictT sl1.sub ea
        refine ⟨a, ks, ps, rfl, rd, prs_keys r ep, fun l bs nl eb => ?_⟩
        have tb : ∀ b ∈ bs, TupAt H1 b := fun b m => by
          have : H1 b ∈ bs.map H1 := List.mem_map.mpr ⟨b, m, rfl⟩
          rw [eb] at this
          obtain ⟨p, _, z⟩ := List.mem_map.mp this
          exact ⟨_, z.symm⟩
        have lb : l ∉ bs := fun m => by
          obtain ⟨_, z⟩ := tb l m
          rw [nl] at z; cases z
        have g : Grow Hs1 H1 (frzH Hs1 H1 bs) (upd H1 l (.lst (bs.map V.ref))) := by
          refine ⟨fun b o z => ?_, same_upd nl, fun b o z => ?_, fun b => ?_⟩
          · unfold frzH
            by_cases m : b ∈ bs
            · rw [if_pos m]; exact sl1.sub _ _ z
            · rw [if_neg m]; exact z
          · unfold frzH at z
            have z : H1 b = some o := by
              by_cases m : b ∈ bs
              · rw [if_pos m] at z; exact z
              · rw [if_neg m] at z; exact sl1.sub _ _ z
            rw [upd_ne (ne_of_none z nl)]
            exact z
          · by_cases m : b ∈ bs
            · exact .inr (.inr (.inr (tb b m)))
            · unfold frzH
              rw [if_neg m]
              cases z : Hs1 b with
              | none => exact .inl rfl
              | some o => exact .inr (.inl (by simp))
        obtain ⟨f1, f2, f3⟩ := sl1.fresh nl
        refine q1 _ _ (sl1.grow g) g.s l (by unfold frzH; rw [if_neg lb]; exact f1) f2 (f3.grow sl1 g) ⟨bs.map V.ref, upd_same, RepA.tups ?_⟩
        rw [← eb]
        exact List.map_congr_left fun b m => frz_in m
end DL

/-! DTP -/
namespace DL
open PySem PySem.Spec PyProof.Rows L2

/-! ### recv.pop(i) on a list within a tree -/
section
variable {K : Fg} {P : Pin} {Hs H : Hp}
theorem TreA.del : ∀ {vs : List V} {ds : List D} {f : List Addr} {k : Nat}, TreA K P Hs H vs ds f → k < ds.length → ∃ f1 fk f2, f = f1 ++ (fk ++ f2) ∧
    ∀ Hs' H', Same Hs Hs' → (∀ b ∈ f1 ++ f2, (∀ u, H b = some u → H' b = some u) ∧ Hs' b = none) → TreA K P Hs' H' (vs.eraseIdx k) (ds.eraseIdx k) (f1 ++ f2)
  | _, _, _, _, .nil, h => absurd h (Nat.not_lt_zero _)
  | _, _, _, 0, .cons (f := fa) (g := ga) a b, _ => ⟨[], fa, ga, rfl, fun Hs' H' e st => b.mono e (fun _ _ z => z) (fun c m => (st c m).1) fun c m _ => (st c m).2⟩
  | _, _, _, k + 1, .cons (f := fa) (g := ga) a b, h => by
    obtain ⟨f1, fk, f2, h2, h4⟩ := b.del (k := k) (by simpa using h)
    refine ⟨fa ++ f1, fk, f2, by rw [h2, List.append_assoc], fun Hs' H' e st => ?_⟩
    rw [List.append_assoc] at st ⊢
    exact .cons (a.mono e (fun _ _ z => z) (fun c m => (st c (List.mem_append_left _ m)).1) fun c m _ => (st c (List.mem_append_left _ m)).2) (h4 Hs' H' e fun c m => st c (List.mem_append_right _ m))
end
section
variable {X : Cx} {B : Bs} {W : WX} {pos : Pos} {h : En → Option D} {i : Nat} {g : En → Option (List Nat)}
def popR (i : Nat) (g : En → Option (List Nat)) (h : En → Option D) : SF := fun ρ => match ρ[i]?, g ρ, h ρ with
  | some s, some path, some (.int k) => (match s.tree with
    | some d => (match getIn d path with
      | some (.list ds) => if 0 ≤ k ∧ k.toNat < ds.length ∧ ds.length ≤ 100000 then .nx (ρ.set i (s.putT (setIn d path (.list (ds.eraseIdx k.toNat))))) else .bad
      | _ => .bad)
    | none => .bad)
  | _, _, _ => .bad
theorem seq_nat {k n : Nat} (h : k < n) : seqIndex? (k : Int) n = some k := by
  unfold seqIndex?
  simp
  omega
theorem psd_popR {c : Expr} (hh : PE X c (tBM X.K "list" rPopAt (tRQ X.K B i g) (tCons (tQ X.K B h) tNil))) (hs : swapsWith c none pos.line X.env = pure false := by rfl) : PSD X B W (.Expr c pos) (popR i g h) :=
  PS.imp (ps_expr hh hs) fun D' σ H ⟨Hs, ρ, sl, q⟩ => by
  unfold popR at q
  cases e0 : ρ[i]? with
  | none => rw [e0] at q; exact q.elim
  | some s =>
    cases e2 : g ρ with
    | none => rw [e0, e2] at q; exact q.elim
    | some path =>
      cases e3 : h ρ with
      | none => rw [e0, e2, e3] at q; exact q.elim
      | some y =>
        obtain ⟨k, rfl⟩ : ∃ k, y = .int k := by
          cases y with
          | int k => exact ⟨k, rfl⟩
          | _ => rw [e0, e2, e3] at q; exact q.elim
        rw [e0, e2, e3] at q
        dsimp only at q
        cases e4 : s.tree with
        | none => rw [e4] at q; exact q.elim
        | some d =>
          rw [e4] at q
          dsimp only at q
          cases e5 : getIn d path with
          | none => rw [e5] at q; exact q.elim
          | some c0 =>
            rw [e5] at q
            obtain ⟨ds, rfl⟩ : ∃ ds, c0 = .list ds := by
              cases c0 with
              | list ds => exact ⟨ds, rfl⟩
              | _ => exact q.elim
            dsimp only at q
            by_cases hk : 0 ≤ k ∧ k.toNat < ds.length ∧ ds.length ≤ 100000
            · rw [if_pos hk] at q
              obtain ⟨hk0, hk1, hk2⟩ := hk
              obtain ⟨p, qa, f, fc, fo⟩ := sl.foc e0 e4 e5
              obtain ⟨vs, gg, hq, nq, ef, tA⟩ := fo.t.lstOf
              refine ⟨Hs, ρ, s, d, path, p, sl, e0, e4, fo.hp, e2, fun v hv => ?_⟩
              rw [fo.hv] at hv
              cases hv
              refine ⟨.inl ⟨rfl, _, .inl (.inl hq)⟩, Hs, ρ, _, sl, e3, fun w hw => ?_⟩
              have ew : w = .int k := Shal.int (H := Hs) (.inl hw)
              have lv := tA.len
              have hv1 : vs[k.toNat]? = some (vs[k.toNat]'(by omega)) := List.getElem?_eq_getElem (by omega)
              have hsi : seqIndex? k vs.length = some k.toNat := by
                have := seq_nat (k := k.toNat) (n := vs.length) (by omega)
                rwa [Int.toNat_of_nonneg hk0] at this
              refine ⟨qa, vs, k, k.toNat, _, rfl, by rw [ew], hq, by omega, by omega, hsi, hv1, ?_⟩
              obtain ⟨f1, fk, f2, eg, cl⟩ := tA.del hk1
              have nodup := fo.nd
              rw [ef, eg] at nodup
              have inG : ∀ a, a ∈ f1 ++ f2 → a ∈ fc ∧ a ≠ qa := fun a m => by
                rw [ef, eg]
                have m' : a ∈ f1 ++ (fk ++ f2) := (List.mem_append.mp m).elim (fun m => List.mem_append_left _ m) fun m => List.mem_append_right _ (List.mem_append_right _ m)
                exact ⟨List.mem_cons_of_mem _ m', fun z => (List.nodup_cons.mp nodup).1 (by rw [← z]; exact m')⟩
              have st0 : ∀ a ∈ f, (∀ o, H a = some o → H a = some o) ∧ Hs a = none := fun a m => ⟨fun o e => e, (fo.th a m).2⟩
              have tN : Tre X.K B.pin Hs (L2.upd H qa (.lst (vs.eraseIdx k.toNat))) (.ref qa) (bx (.list (ds.eraseIdx k.toNat))) (qa :: (f1 ++ f2)) :=
                .lst L2.upd_same nq (cl Hs _ (.refl _) fun a m => ⟨fun o e => by rw [L2.upd_ne (inG a m).2]; exact e, (fo.th a (fo.inF a (inG a m).1)).2⟩)
              obtain ⟨F, fe, nF⟩ := fo.feet
              have sl2 := fo.write fo.hid ⟨F, fe, nF, fun jj a m => ?_⟩ (.refl _) st0 (by rw [ef]; exact List.mem_cons_self) tN ?_ fun a m => ?_
              · rw [List.set_set] at sl2
                exact q σ Hs _ sl2 (.refl _)
              · exact (List.mem_cons.mp m).elim (fun z => by rw [z]; exact nF jj _ (fo.inF _ (by rw [ef]; exact List.mem_cons_self))) fun m => nF jj a (fo.inF a (inG a m).1)
              · obtain ⟨n0, n1⟩ := List.nodup_cons.mp nodup
                obtain ⟨n2, n3, n4⟩ := List.nodup_append.mp n1
                exact List.nodup_cons.mpr ⟨fun m => (inG qa m).2 rfl, List.nodup_append.mpr ⟨n2, (List.nodup_append.mp n3).2.1, fun x mx y my => n4 x mx y (List.mem_append_right _ my)⟩⟩
              · exact .inl ((List.mem_cons.mp m).elim (fun z => by rw [z, ef]; exact List.mem_cons_self) fun m => (inG a m).1)
            · rw [if_neg hk] at q; exact q.elim
end
/-! ### len(recv) -/
def lenR (i : Nat) (g : En → Option (List Nat)) : EF := fun ρ => match ρ[i]?, g ρ with
  | some s, some path => (match s.tree with
    | some d => (match getIn d path with
      | some (.list ds) => .ok (.st (.int (ds.length : Int))) ρ
      | _ => .bad)
    | none => .bad)
  | _, _ => .bad
theorem pd_lenR {X : Cx} {B : Bs} {W : WX} {e : Expr} {i : Nat} {g : En → Option (List Nat)} {p pos : Pos} (hg : Gl X "len") (hm : X.mg "len" = none) (ha : PRQ X B e i g) (hs : starEach [e] X.env = (false, eval e X.env) :: starEach [] X.env := by rfl)
    (hpl : (backTo pos (starEach ([] : List Expr) X.env)).any (·.1) = false := by rfl) : PD X B W (.Call (.Name "len" p) [e] [] pos) (lenR i g) :=
  PE.imp (pe_callB call_len_seq hg hm (by decide +kernel) (pa_cons ha pa_nil hs) (by decide) (by decide) hs hpl) fun σ H Q ⟨Hs, ρ, sl, q⟩ => by
  unfold lenR at q
  cases e0 : ρ[i]? with
  | none => rw [e0] at q; exact q.elim
  | some s =>
    cases e2 : g ρ with
    | none => rw [e0, e2] at q; exact q.elim
    | some path =>
      rw [e0, e2] at q
      dsimp only at q
      cases e4 : s.tree with
      | none => rw [e4] at q; exact q.elim
      | some d =>
        rw [e4] at q
        dsimp only at q
        cases e5 : getIn d path with
        | none => rw [e5] at q; exact q.elim
        | some c0 =>
          rw [e5] at q
          obtain ⟨ds, rfl⟩ : ∃ ds, c0 = .list ds := by
            cases c0 with
            | list ds => exact ⟨ds, rfl⟩
            | _ => exact q.elim
          dsimp only at q
          obtain ⟨p, qa, f, fc, fo⟩ := sl.foc e0 e4 e5
          obtain ⟨vs, gg, hq, nq, ef, tA⟩ := fo.t.lstOf
          refine ⟨Hs, ρ, s, d, path, p, sl, e0, e4, fo.hp, e2, fun v hv => ?_⟩
          rw [fo.hv] at hv
          cases hv
          rw [← tA.len] at q
          exact ⟨qa, vs, rfl, .inl (.inl (.inl hq)), q Hs H sl (.refl _) _ (.int _)⟩
end DL

/-! DH -/
set_option maxHeartbeats 2000000
/-! DH: what is walked and unpacked while an exception is handled. -/
namespace DH
open PySem PySem.Spec PyProof.Rows L2 HotX L2H

section
variable {prog : Program} {w : World} {A : Around} {E : Value → Shared → Prop} {s : Shared}
theorem listEnd {it l x1 : Addr} {i : Nat} {items} {Q : Option Value → Shared → Prop} (hot : HotAt A x1 s.heap) (hne : x1 ≠ it) (hit : s.heap.IsListIter it l i) (hl : s.heap.IsList l items) (hx : items[i]? = none)
    (hQ : ∀ g, Heap.ExtBut it s.heap g → Q none { s with heap := g }) : wpAny (model prog w) A (pyNext (.ref it)) Q E s := by
  obtain ⟨o, ho, hc, hd⟩ := id hit; obtain ⟨ol, hol, _, nl, hdl⟩ := hl; obtain ⟨hh, o1, vs1, h1, d1, c1⟩ := hot
  unfold pyNext
  refine wpAny_bind (wpAny_attempt (wpAny_callSpecial?_slot (name := Str.ofString "__next__") hit.typeIs slot_listiter_next (wpAny_call_entry slot_listiter_next hit.typeIs entry_listiter_next ?_ (args_listiter_next _))))
  show wpAny _ _ (field (.ref it) 0 >>= _) _ _ s; refine wpAny_bind (wpAny_field ho hd (x := .ref l) rfl ?_)
  show wpAny _ _ (if (Value.ref l == Value.none) = true then _ else _) _ _ s; rw [if_neg (show ¬ ((Value.ref l == Value.none) = true) from Bool.false_ne_true)]
  show wpAny _ _ (field (.ref it) 1 >>= _) _ _ s; refine wpAny_bind (wpAny_field ho hd (x := .int i 0) rfl ?_)
  show wpAny _ _ (seqItems? (.ref l) >>= _) _ _ s; refine wpAny_bind (wpAny_seqItems hol hdl ?_)
  simp only [Int.toNat_natCast, hx]; refine wpAny_bind (wpAny_rule (wpAny_bind (wpAny_setField ho hd (by simp) ?_)))
  show wpAny _ _ (newExc (.type "StopIteration") [] >>= _) _ _ _; refine wpAny_bind ?_
  simp only [newExc, newTuple]; refine wpAny_bind (wpAny_newObj_type ?_ (by size_fits))
  refine wpAny_bind (m := firstArgMember _ _) (wpAny_of_eq (a := Value.none) (by first | rfl | (simp only [firstArgMember]; rfl)) ?_); refine wpAny_newObj_type ?_ (by size_fits)
  have g1 := (Heap.get?_update_other s.heap (Obj.mapFields (·.setIfInBounds 0 Value.none)) (Ne.symm hne)).trans h1
  refine raiseNew_hot ⟨hh, o1, vs1, Heap.get?_push_of_some _ (Heap.get?_push_of_some _ g1), d1, c1⟩ (Nat.ne_of_lt (Heap.lt_size (Heap.get?_push_of_some _ g1))) (Heap.get?_push_size _ rfl) rfl (by first | (simp; done) | (simp; omega)) ?_
  refine wpAny_bind (wpAny_isInstance (T := "StopIteration") (b := true) ⟨_, Heap.get?_update_self _ (Heap.get?_push_size _ rfl) rfl, rfl⟩ isSubtype_stop (wpAny_pure (hQ _ fun b q hb e => ?_)))
  have g2 := (Heap.get?_update_other s.heap (Obj.mapFields (·.setIfInBounds 0 Value.none)) (Ne.symm hb)).trans e
  rw [Heap.get?_update_other _ _ (Nat.ne_of_gt (Heap.lt_size (Heap.get?_push_of_some _ g2)))]
  exact Heap.get?_push_of_some _ (Heap.get?_push_of_some _ g2)
theorem tupEnd {it t x1 : Addr} {i : Nat} {items} {Q : Option Value → Shared → Prop} (hot : HotAt A x1 s.heap) (hne : x1 ≠ it) (hit : IsTupIter s.heap it t i) (ht : IsTup s.heap t items) (hx : items[i]? = none)
    (hQ : ∀ g, Heap.ExtBut it s.heap g → Q none { s with heap := g }) : wpAny (model prog w) A (pyNext (.ref it)) Q E s := by
  obtain ⟨o, ho, hc, hd⟩ := id hit; obtain ⟨ol, hol, _, nl, hdl⟩ := ht; obtain ⟨hh, o1, vs1, h1, d1, c1⟩ := hot
  unfold pyNext
  refine wpAny_bind (wpAny_attempt (wpAny_callSpecial?_slot (name := Str.ofString "__next__") hit.typeIs slot_tupleiter_next (wpAny_call_entry slot_tupleiter_next hit.typeIs entry_tupleiter_next ?_ (args_tupleiter_next _))))
  show wpAny _ _ (field (.ref it) 0 >>= _) _ _ s; refine wpAny_bind (wpAny_field ho hd (x := .ref t) rfl ?_)
  show wpAny _ _ (if (Value.ref t == Value.none) = true then _ else _) _ _ s; rw [if_neg (show ¬ ((Value.ref t == Value.none) = true) from Bool.false_ne_true)]
  show wpAny _ _ (field (.ref it) 1 >>= _) _ _ s; refine wpAny_bind (wpAny_field ho hd (x := .int i 0) rfl ?_)
  show wpAny _ _ (seqItems? (.ref t) >>= _) _ _ s; refine wpAny_bind (wpAny_seqItems hol hdl ?_)
  simp only [Int.toNat_natCast, hx]; refine wpAny_bind (wpAny_rule (wpAny_bind (wpAny_setField ho hd (by simp) ?_)))
  show wpAny _ _ (newExc (.type "StopIteration") [] >>= _) _ _ _; refine wpAny_bind ?_
  simp only [newExc, newTuple]; refine wpAny_bind (wpAny_newObj_type ?_ (by size_fits))
  refine wpAny_bind (m := firstArgMember _ _) (wpAny_of_eq (a := Value.none) (by first | rfl | (simp only [firstArgMember]; rfl)) ?_); refine wpAny_newObj_type ?_ (by size_fits)
  have g1 := (Heap.get?_update_other s.heap (Obj.mapFields (·.setIfInBounds 0 Value.none)) (Ne.symm hne)).trans h1
  refine raiseNew_hot ⟨hh, o1, vs1, Heap.get?_push_of_some _ (Heap.get?_push_of_some _ g1), d1, c1⟩ (Nat.ne_of_lt (Heap.lt_size (Heap.get?_push_of_some _ g1))) (Heap.get?_push_size _ rfl) rfl (by first | (simp; done) | (simp; omega)) ?_
  refine wpAny_bind (wpAny_isInstance (T := "StopIteration") (b := true) ⟨_, Heap.get?_update_self _ (Heap.get?_push_size _ rfl) rfl, rfl⟩ isSubtype_stop (wpAny_pure (hQ _ fun b q hb e => ?_)))
  have g2 := (Heap.get?_update_other s.heap (Obj.mapFields (·.setIfInBounds 0 Value.none)) (Ne.symm hb)).trans e
  rw [Heap.get?_update_other _ _ (Nat.ne_of_gt (Heap.lt_size (Heap.get?_push_of_some _ g2)))]
  exact Heap.get?_push_of_some _ (Heap.get?_push_of_some _ g2)
/-- a tuple unpacked -/
theorem itemsHot {t x1 : Addr} {items : Array Value} {Q : List Value → Shared → Prop} (hot : HotAt A x1 s.heap) (ht : IsTup s.heap t items)
    (hQ : ∀ g, Heap.ExtBut s.heap.objs.size s.heap g → Q items.toList { s with heap := g }) : wpAny (model prog w) A (unpackItems (.ref t) items.size none) Q E s := by
  have hlt : t ≠ s.heap.objs.size := by obtain ⟨o, ho, _⟩ := ht; exact Nat.ne_of_lt (Heap.lt_size ho)
  have hx1 : x1 ≠ s.heap.objs.size := by obtain ⟨_, o, _, ho, _⟩ := hot; exact Nat.ne_of_lt (Heap.lt_size ho)
  unfold unpackItems
  refine wpAny_bind ?_
  unfold notIterableAtAll
  refine wpAny_bind (wpAny_specialOf ht.typeIs slot_tuple_iter.lookup (wpAny_pure ?_))
  simp only [Bool.false_eq_true, if_false]
  refine wpAny_bind (wpAny_holding (iter_tuple ht (wpAny_bind (wpAny_holding (draw_tuple hlt items.size 0 _ _ ⟨_, Heap.get?_push_size _ rfl, rfl, rfl⟩ (ht.push _) (by omega) fun g hit hs => ?_)))))
  have hall : List.take items.size (List.drop 0 items.toList) = items.toList := by rw [List.drop_zero]; exact List.take_of_length_le (by simp)
  rw [hall, if_neg (by simp)]
  have hot2 : HotAt A x1 g := by
    obtain ⟨a, o, vs, e, b, c⟩ := hot
    exact ⟨a, o, vs, hs.extBut x1 o hx1 (Heap.get?_push_of_some _ e), b, c⟩
  refine wpAny_bind (wpAny_holding (tupEnd hot2 hx1 hit ((ht.push _).extBut hs.extBut hlt) (by simp) fun h2 he => ?_))
  simp only [Option.isSome_none, Bool.false_eq_true, if_false]
  exact wpAny_pure (hQ h2 fun b o hb e => he b o hb (hs.extBut b o hb (Heap.get?_push_of_some _ e)))
theorem asgHot {env : Env} {elts : List Expr} {x0} {pos : Pos} {t x1 : Addr} {items : Array Value} {Q : Unit → Shared → Prop} (hot : HotAt A x1 s.heap) (ht : IsTup s.heap t items) (hn : (assignEach elts env).length = items.size) (hst : (assignEach elts env).findIdx? (·.1) = none)
    (h : ∀ g, Heap.ExtBut s.heap.objs.size s.heap g → wpAny (model prog w) A (assignInOrder ((assignEach elts env).map (·.2)) items.toList) Q E { s with heap := g }) : wpAny (model prog w) A (assign (.Tuple elts x0 pos) env (.ref t)) Q E s := by
  rw [assign_Tuple]
  refine wpAny_bind (wpAny_standAt ?_)
  unfold unpack
  rw [hn, hst]
  exact wpAny_bind (wpAny_holding (itemsHot hot ht h))
end
section
variable {X : Cx} {pos : Pos}
theorem pg_tupH {es : List Expr} {k : Nat} {t : TGs} {n : Nat} (hc : HotC X) (h : PGs X es t) (hn : (assignEach es X.env).length = n := by rfl) (hst : (assignEach es X.env).findIdx? (·.1) = none := by rfl) : PG X (.Tuple es k pos) (gTup X.K n t) := by
  refine ⟨fun pins s σ H v u Q I r ⟨a, xs, e1, hq, hl, hw⟩ => ?_⟩
  subst e1; cases r
  obtain ⟨its, rv, ht, hz⟩ := I.tuple hq
  obtain ⟨x1, hot⟩ := hc.at I
  refine asgHot hot ht (by simp [hn, ← hl, rv.length]) hst fun g hx => ?_
  have I1 : Inv X pins σ H { s with heap := g } := I.kept (t' := s.toks) fun b o e => hx b o (Nat.ne_of_lt (Heap.lt_size e)) e
  exact h.run pins _ σ H xs _ Q I1 (by simpa using rv) hw
/-- the list at a, walked -/
theorem turn_listH {P : Program} {w : World} {K : PySem.W.Frag} {tg : Expr} (a it : Addr) : TurnH P w K tg (Itl K a) [it] it (fun i h => h.IsListIter it a i) where
  mem := by simp
  obj := (turn_list (P := P) (w := w) (K := K) (tg := tg) a it).obj
  keep := (turn_list (P := P) (w := w) (K := K) (tg := tg) a it).keep
  item := by
    intro X hP hw hK hc i pins s σ H E I hf st ⟨xs, x, hq, hx⟩
    subst hP hw hK
    obtain ⟨its, rv, p, hz⟩ := I.list hq
    obtain ⟨u, hu, ru⟩ := rv.get hx
    obtain ⟨f0, f1, f2, f3, f4, f5⟩ := hf it (by simp)
    refine wpAny_pyNext_list_item st p.isList (x := u) (by simpa using hu) fun g st' sb => ?_
    have I1 : Inv X pins σ H { s with heap := g } := I.turned (t' := s.toks) (fun b o hb e => (sb.2 b hb).trans e) f0 f1 f3 f4 f5
    obtain ⟨o, e, c, d⟩ := id st'
    exact ⟨u, rfl, go_of (s := { s with heap := g }) e c d (by decide) ⟨x, H, I1, ru, ⟨rfl, fun ys hy => by rw [I.list_inj hy hq]; exact hx⟩, st', fun b hb => (hf b hb).1⟩⟩
  done := by
    intro X hP hw hK hc i pins s σ H E I hf st ⟨xs, hq, hx⟩
    subst hP hw hK
    obtain ⟨its, rv, p, hz⟩ := I.list hq
    obtain ⟨f0, f1, f2, f3, f4, f5⟩ := hf it (by simp)
    have hl := rv.length
    obtain ⟨q, ⟨hh, v1, e1, c1⟩, hp⟩ := hc
    have hpin := I.pin q (List.mem_append_left _ hp)
    exact listEnd ⟨hh, q.2, v1, hpin.1, e1, c1⟩ (f5 q (List.mem_append_left _ hp)) st p.isList (by simp; omega) fun g eb => ⟨rfl, I.turned (t' := s.toks) (fun b o hb e => eb b o hb e) f0 f1 f3 f4 f5⟩
  self := fun _ _ _ _ _ st h => wpAny_pyIter_listiter st h
/-- a list that is walked -/
theorem pi_listH {tg e : Expr} {te : TE} (he : PE X e te) : PIH X tg e (fun σ H R => te σ H fun v H1 => ∃ a xs, v = .ref a ∧ SqL X.K H1 a xs ∧ R (Itl X.K a) H1) := by
  refine ⟨fun pins s σ H R I h => ?_⟩
  refine thn (he.run pins s σ H _ I h) fun v s1 ⟨x, H1, I1, r1, a, xs, e1, hq, q⟩ => ?_
  subst e1
  obtain rfl : v = Value.ref a := r1
  obtain ⟨its, rv, p, hz⟩ := I1.list hq
  refine wpAny_pyIter_list p.isList ?_
  have I2 : Inv X pins σ H1 { s1 with heap := s1.heap.push { cls := .type "list_iterator", data := .fields #[.ref a, .int 0 0] } } := I1.kept (t' := s1.toks) fun b o e => Heap.get?_push_of_some _ e
  refine ⟨s1.heap.objs.size, [s1.heap.objs.size], _, _, H1, rfl, I2, turn_listH a s1.heap.objs.size, ⟨_, Heap.get?_push_size _ rfl, rfl, rfl⟩, fun b hb => ?_, q⟩
  have e : b = s1.heap.objs.size := by simpa using hb
  subst e
  refine ⟨I1.hok.fresh (Nat.le_refl _), Nat.ne_of_gt I1.lt, I1.nofs (Nat.le_refl _), .inr I1.sz, fun x c e z => ?_, fun p hp z => ?_⟩
  · obtain ⟨v, q⟩ := I1.cell x c e
    exact absurd q.lt (by rw [z]; exact Nat.lt_irrefl _)
  · exact absurd (Heap.lt_size (I1.pin p hp).1) (by rw [z]; exact Nat.lt_irrefl _)
end
end DH

/-! DH2 -/
set_option maxHeartbeats 2000000
/-! DH2: list comprehensions while an exception is handled. -/
namespace DH
open PySem PySem.Spec PyProof.Rows L2 HotX L2H

/-- a comprehension's block that bears what X bears -/
abbrev blkH (X : Cx) (s : Shared) (H : Hp) (scope : Scope) (ce : Env) (fp : List Addr) : Cx := { X with s_0 := s, H_0 := H, env := ce, outer := X.stack, ex := fp, fn := fun x => scope.names.lookup x == some .cell, xe := fun _ _ => False }
section
variable {X : Cx} {pins : List (Addr × Obj)} {σ : L2.St} {H : Hp} {s : Shared}
theorem startH {scope : Scope} {own : List (Str × Nat)} {fp : List Addr} (I : Inv X pins σ H s) (ok : BlkOk X.N X.env.scope scope own) (hN : X.N.Nodup) (hfp : ∀ b ∈ fp, FpOk X pins H b ∧ b < s.heap.objs.size) :
    Inv (blkH X s H scope (compEnvC scope (cellsFrom (s.heap.objs.size + 1) scope.names (cloFrom X.env.cells scope.names [])) s.heap.objs.size X.env) fp) [] (wipe σ (own.map (·.2))) H { s with heap := pushCells (s.heap.push { cls := .type "dict", data := .dict #[] }) scope.names } := by
  have J := block_start I ok hN hfp
  have o := J.ok
  refine ⟨⟨o.mod, o.kind, o.glob, o.blt, o.above, o.inj, o.has, o.cab, o.hd, o.frames, o.stk, o.exf, o.bs, o.bsz, o.noex, o.exfs, o.funs, o.frf⟩, J.os, J.bare, J.base, J.loc, J.cell, J.free, J.freeC, fun p hp => ?_, J.hok, J.len⟩
  rw [List.append_nil] at hp
  obtain ⟨p1, p2, p3, p4, p5⟩ := I.pin p (List.mem_append_left _ hp)
  refine ⟨pushCells_keeps _ _ _ _ (Heap.get?_push_of_some _ p1), p2, Nat.ne_of_lt (Heap.lt_size p1), fun hm => ?_, p5⟩
  exact (List.mem_cons.mp (I.stkSub p.1 hm)).elim p3 p4
theorem lcH {Q : VK} {elt tg iter : Expr} {ifs : List Expr} {scope : Scope} {own : List (Str × Nat)} {pos pos' : Pos} {wi : TI} {g : TG} {tt : TT} {te : TE} {use : Option (Value → Sem Unit)} {Qf : Value → Shared → Prop} (hc : HotC X) (hN : X.N.Nodup) (I : Inv X pins σ H s) (hi : PIH X tg iter wi) (ok : BlkOk X.N X.env.scope scope own)
    (hg : ∀ (s : Shared) (H : Hp) (C : Addr) (cl : List (Str × Addr)) (fp : List Addr), PG (blkH X s H scope (compEnvC scope cl C X.env) fp) tg g) (ht : ∀ (s : Shared) (H : Hp) (C : Addr) (cl : List (Str × Addr)) (fp : List Addr), PTs (blkH X s H scope (compEnvC scope cl C X.env) fp) ifs tt)
    (he : ∀ (s : Shared) (H : Hp) (C : Addr) (cl : List (Str × Addr)) (fp : List Addr), PE (blkH X s H scope (compEnvC scope cl C X.env) fp) elt te) (hs : ∀ x, foldedSetIterable iter X.env x = pure x) (h : tLc wi g tt te (own.map (·.2)) σ H Q)
    (hRR : ∀ D C s' m H', Inv X pins σ H' s' → Q (.ref D) H' → s'.heap.Ns C m → FpOk X pins H' C → compPost (model X.prog X.w) X.A X.xe use Qf (.ref D) C (.ok .next) s') :
    wpAny (model X.prog X.w) X.A (comprehension (.ListComp elt [⟨tg, iter, ifs, 0⟩] scope pos) scope X.env pos' (newList []) false (eval iter X.env) use) Qf X.xe s := by
  have hfree : ∀ y ∈ scope.names, y.2 = .free → ∃ c, X.env.cells.lookup y.1 = some c := fun y hy e => (ok.free y hy e).elim (fun k => I.ok.has _ (.inl k)) fun k => I.ok.has _ (.inr k)
  refine wpAny_comprehension_free (use := use) rfl hs (closure_ok hfree) ok.kind (fun y hy e => by rw [ok.uniq y hy, e]) (thn (hi.run pins s σ H _ I h) fun xv s1 hx => thn hx fun itv s2 ⟨it, fp, tn, J, H2, e, I2, T, st2, f2, q⟩ => ?_)
  subst e
  refine wpAny_newObj_type (newEnv_comp ?_) (by show 0 ≤ sizeLine; decide)
  generalize hD : s2.heap.objs.size = D
  obtain ⟨W, ⟨m0, w0⟩, turn⟩ := q D (I2.hok.fresh (Nat.le_of_eq hD))
  generalize hs3 : ({ s2 with heap := s2.heap.push { cls := .type "list", data := .seq ([] : List Value).toArray } } : Shared) = s3
  have h3 : s3.heap = s2.heap.push { cls := .type "list", data := .seq ([] : List Value).toArray } := by rw [← hs3]
  have I3 : Inv X pins σ (upd H2 D (.lst [])) s3 := by
    rw [← hs3]
    exact I2.laid (t' := s2.toks) (fun b o e => Heap.get?_push_of_some _ e) (Nat.le_of_eq hD) ⟨Nat.zero_le _, [], 0, .nil, by rw [← hD]; exact Heap.get?_push_size _ rfl⟩
  have f3 : ∀ b ∈ fp, FpOk X pins (upd H2 D (.lst [])) b ∧ b < s3.heap.objs.size := fun b hb => by
    obtain ⟨o, e, _⟩ := T.obj _ _ st2 b hb
    have hlt := Heap.lt_size e
    exact ⟨⟨by rw [upd_ne (by rw [← hD]; exact Nat.ne_of_lt hlt)]; exact (f2 b hb).1, (f2 b hb).2⟩, by rw [h3, Heap.size_push]; exact Nat.lt_succ_of_lt hlt⟩
  have st3 : tn 0 s3.heap := T.keep _ _ _ st2 fun b _ o e => by rw [h3]; exact Heap.get?_push_of_some _ e
  have I4 := startH I3 ok hN f3
  have pg := hg s3 (upd H2 D (.lst [])) s3.heap.objs.size (cellsFrom (s3.heap.objs.size + 1) scope.names (cloFrom X.env.cells scope.names [])) fp; have pt := ht s3 (upd H2 D (.lst [])) s3.heap.objs.size (cellsFrom (s3.heap.objs.size + 1) scope.names (cloFrom X.env.cells scope.names [])) fp
  have pe := he s3 (upd H2 D (.lst [])) s3.heap.objs.size (cellsFrom (s3.heap.objs.size + 1) scope.names (cloFrom X.env.cells scope.names [])) fp; have nfp : ∀ b ∈ fp, (upd H2 D (.lst [])) b = none := fun b hb => (f3 b hb).1.1
  show codeAny _ _ (.compStart (.ListComp elt [⟨tg, iter, ifs, 0⟩] scope pos) 0 (.ref it) (.ref D) (compEnvC scope (cellsFrom (s3.heap.objs.size + 1) scope.names (cloFrom X.env.cells scope.names [])) s3.heap.objs.size X.env)) (compPost (model X.prog X.w) X.A X.xe use Qf (.ref D) s3.heap.objs.size)
    { s3 with heap := pushCells (s3.heap.push { cls := .type "dict", data := .dict #[] }) scope.names }
  generalize hce : compEnvC scope (cellsFrom (s3.heap.objs.size + 1) scope.names (cloFrom X.env.cells scope.names [])) s3.heap.objs.size X.env = ce at I4 pg pt pe ⊢; have cL : ce.locals = s3.heap.objs.size := by subst hce; rfl
  generalize hH3 : upd H2 D (.lst []) = H3 at I3 I4 pg pt pe w0 nfp f3
  generalize hs4 : ({ s3 with heap := pushCells (s3.heap.push { cls := .type "dict", data := .dict #[] }) scope.names } : Shared) = s4 at I4 ⊢
  have st4 : tn 0 s4.heap := T.keep _ _ _ st3 fun b _ o e => by rw [← hs4]; exact pushCells_keeps _ _ _ _ (Heap.get?_push_of_some _ e)
  have npin : ∀ b ∈ fp, ∀ p ∈ X.pn, p.1 ≠ b := fun b hb p hp => (f2 b hb).2.2.2.2.2 p (List.mem_append_left _ hp)
  have stat : ∀ {σ' : L2.St} {H' : Hp} {s' : Shared}, Inv (blkH X s3 H3 scope ce fp) [] σ' H' s' → (∀ b ∈ fp, H' b = none) → ∀ b ∈ fp, FpOk (blkH X s3 H3 scope ce fp) [] H' b := fun {σ' H' s'} I' hn b hb =>
    ⟨hn b hb, (I'.ok.exf b hb).1, I'.ok.exfs b hb, .inl hb, fun x c e => (I'.ok.exf b hb).2 x c e, fun p hp => npin b hb p (by simpa using hp)⟩
  have hcB : HotC (blkH X s3 H3 scope ce fp) := hc
  have loop : codeAny (model X.prog X.w) X.A (.compLoop (.ListComp elt [⟨tg, iter, ifs, 0⟩] scope pos) 0 (.ref it) (.ref D) ce) (compPost (model X.prog X.w) X.A X.xe use Qf (.ref D) s3.heap.objs.size) s4 := by
    refine compLoop_any (fun n s' => ∃ i H', Inv (blkH X s3 H3 scope ce fp) [] (wipe σ (own.map (·.2))) H' s' ∧ tn i s'.heap ∧ (∀ b ∈ fp, H' b = none) ∧ W i n H') ?_ m0 ⟨0, H3, I4, st4, nfp, w0⟩
    rintro n s5 ⟨i, H5, I5, st5, n5, w5⟩
    rcases turn i n H5 w5 with ⟨stop, qq⟩ | ⟨go, Nx, hNx, step⟩
    · refine thnF (T.done (blkH X s3 H3 scope ce fp) rfl rfl rfl hcB i [] s5 _ H5 (fun _ _ => False) I5 (stat I5 n5) st5 stop) fun r s6 ⟨hr, I6⟩ => ?_
      subst hr
      have I7 : Inv X pins σ H5 s6 := I3.call' (ch := fp) I6.os I6.base I6.hok I6.bare fun b hb => ⟨(f3 b hb).1.2.2.2.1, (f3 b hb).1.2.1, (f3 b hb).1.2.2.2.2.1, (f3 b hb).1.2.2.2.2.2⟩
      have nC : H5 s3.heap.objs.size = none := by have z : H5 ce.locals = none := I6.free; rw [cL] at z; exact z
      obtain ⟨m, hn, _⟩ := I6.loc
      have hn : s6.heap.Ns ce.locals m := hn
      rw [cL] at hn
      exact hRR D s3.heap.objs.size s6 m H5 I7 qq hn (I3.fpOk (Nat.le_refl _) nC)
    · refine thnF (T.item (blkH X s3 H3 scope ce fp) rfl rfl rfl hcB i [] s5 _ H5 (fun _ _ => False) I5 (stat I5 n5) st5 go) fun r s6 ⟨u, hr, h6⟩ => ?_
      subst hr
      refine thnF h6 fun _ s7 ⟨x, H7, I7, r7, y7, st7, n7⟩ => ?_
      refine thnF (pg.run _ s7 _ H7 x u _ (I7.pinned (stat I7 n7) (T.obj _ _ st7)) r7 (step x H7 y7)) fun _ s8 ⟨σ8, H8, I8, hw8, q8⟩ => ?_
      refine thnF (pt.run _ s8 σ8 H8 _ I8 q8) fun b s9 ⟨H9, I9, q9⟩ => ?_
      have fin : ∀ {s' : Shared} {H' : Hp}, Inv (blkH X s3 H3 scope ce fp) ([] ++ pinsAt fp s7.heap) σ8 H' s' → Nx H' → ∃ m, m < n ∧ ∃ i H', Inv (blkH X s3 H3 scope ce fp) [] (wipe σ (own.map (·.2))) H' s' ∧ tn i s'.heap ∧ (∀ b ∈ fp, H' b = none) ∧ W i m H' := fun {s' H'} I' nx => by
        obtain ⟨m', hm, w'⟩ := hNx H' nx
        have pin' : ∀ b ∈ fp, ∀ o, s7.heap.get? b = some o → s'.heap.get? b = some o ∧ H' b = none := fun b hb o e => by
          have z := I'.pin (b, o) (List.mem_append_right _ (List.mem_append_right _ (mem_pinsAt hb e)))
          exact ⟨z.1, z.2.1⟩
        refine ⟨m', hm, i + 1, H', (I'.unpinned (pins := [])).weak (by rw [← hw8, wipe_length]) (fun j v e => by rw [← hw8] at e; exact (wipe_some e).1), T.keep _ _ _ st7 fun b hb o e => (pin' b hb o e).1, fun b hb => ?_, w'⟩
        obtain ⟨o, e, _⟩ := T.obj _ _ st7 b hb
        exact (pin' b hb o e).2
      cases b with
      | false => simp only [Bool.false_eq_true, if_false] at q9 ⊢; exact fin I9 q9
      | true =>
        simp only [if_true] at q9 ⊢
        refine thnF (pe.run _ s9 σ8 H9 _ I9 q9) fun z s10 ⟨yv, H10, I10, r10, acc, hD10, hz10, nx⟩ => app_ok (X := blkH X s3 H3 scope ce fp) I10 hD10 hz10 r10 fun s11 I11 => fin I11 nx
  exact codeAny_compStart_list loop (T.self X.A 0 _ _ _ st4 loop)
theorem pe_lcH {elt tg iter : Expr} {ifs : List Expr} {scope : Scope} {own : List (Str × Nat)} {pos : Pos} {wi : TI} {g : TG} {tt : TT} {te : TE} (hc : HotC X) (hN : X.N.Nodup) (hi : PIH X tg iter wi) (ok : BlkOk X.N X.env.scope scope own) (hg : ∀ (s : Shared) (H : Hp) (C : Addr) (cl : List (Str × Addr)) (fp : List Addr), PG (blkH X s H scope (compEnvC scope cl C X.env) fp) tg g)
    (ht : ∀ (s : Shared) (H : Hp) (C : Addr) (cl : List (Str × Addr)) (fp : List Addr), PTs (blkH X s H scope (compEnvC scope cl C X.env) fp) ifs tt) (he : ∀ (s : Shared) (H : Hp) (C : Addr) (cl : List (Str × Addr)) (fp : List Addr), PE (blkH X s H scope (compEnvC scope cl C X.env) fp) elt te) (hs : ∀ x, foldedSetIterable iter X.env x = pure x := by intro _; rfl) :
    PE X (.ListComp elt [⟨tg, iter, ifs, 0⟩] scope pos) (tLc wi g tt te (own.map (·.2))) := by
  refine ⟨fun pins s σ H Q I h => ?_⟩
  rw [eval_ListComp]
  refine lcH hc hN I hi ok hg ht he hs h fun D C s' m H' I' q hn ⟨f0, f1, f2, f3, f4, f5⟩ => ⟨m, hn, fun h'' sb => ?_⟩
  exact ⟨.ref D, H', I'.turned (t' := s'.toks) (fun b o hb e => (sb.2 b hb).trans e) f0 f1 f3 f4 f5, rfl, q⟩
end
end DH

/-! DH3 -/
set_option maxHeartbeats 2000000
/-! DH3: a def that is handed the exception that is handled; data there. -/
namespace DH
open PySem PySem.Spec PyProof.Rows L2 HotX L2H DL

/-! ### what such a def promises: sp is told the exception -/
abbrev EO := Addr × Obj
structure FnE (P : Program) (w : World) (K : PySem.W.Frag) (mg : Str → Option Value) (base : Heap) (k : Nat) (f : Addr) (fd : FuncData) (ps : List Str) (sp : EO → Sp) : Prop where
  len : ∀ p vs H Q E, sp p vs H Q E → vs.length = ps.length
  run : ∀ (A : Around) (outer : List Env) (s : Shared) (H : Hp) (args : Args) (us : List Value) (vs : List V) (Q : VK) (E : XK) (p : EO), RoomH k A → Hot1 A p → PinOk outer H s p → Env0 P w K mg base A outer s H → BindsTo s fd args (ps.zip us) → Vals vs us → sp p vs H Q E →
    codeAny (model P w) A (.call (.ref f) args) (CR C8.CX0 outer P w H s Q E) s
theorem fn_ofE {P : Program} {w : World} {K : PySem.W.Frag} {mg : Str → Option Value} {base : Heap} {k : Nat} {f : Addr} {name qual : Str} {params : Arguments} {body : List Stmt} {scope : Scope} {dV kV doc pm cdv ct oc : Value} {an od : Option Addr} {osl : Array (Option Value)} {N ps : List Str} {sp : EO → Sp}
    (lk : K.lookup f = some ⟨oc, od, .func (PySem.W.fnOf name qual params body scope dV kV doc pm an cdv ct), osl⟩) (hcd : PySem.W.codeIn K cdv qual = true) (S : FnScope N ps scope) (len : ∀ p vs H Q E, sp p vs H Q E → vs.length = ps.length)
    (hbody : ∀ (A : Around) (outer : List Env) (s : Shared) (H : Hp) (vs : List V) (Q : VK) (E : XK) (p : EO), Hot1 A p → RoomH k (A.deeper (envOfC qual scope s.heap.objs.size f cdv)) → sp p vs H Q E →
      ∃ t, PSs (cxH C8.CX0 P w K mg base N qual scope f cdv A outer s H E p) body t ∧ t { nx := fun _ H' => Q .non H', rt := Q } (L2.start N vs) H) :
    FnE P w K mg base (k + 1) f (PySem.W.fnOf name qual params body scope dV kV doc pm an cdv ct) ps sp := by
  refine ⟨len, fun A outer s H args us vs Q E p hr hot hpin e0 hb r hsp => ?_⟩
  have KX : K.In s.heap := e0.mod.kin.keeps fun b o e => (e0.bs b o e).1
  have hkind : ∀ y ∈ ps.zip us, scope.names.lookup y.1 = some .local ∨ (scope.names.lookup y.1 = some .cell ∧ ((cellsFrom (s.heap.objs.size + 1) scope.names []).lookup y.1).isSome = true) := fun y hy => by
    obtain ⟨n, v⟩ := y
    exact (S.par n (List.of_mem_zip hy).1).imp id fun q => ⟨q, PySem.W.cellsFrom_some _ _ _ (.inl q)⟩
  refine codeAny_call_function hr.depth (KX _ _ lk) rfl S.co S.gen rfl (PySem.W.codeRec_of KX hcd) (hb _ _ _ _ (wpAny_newFunctionEnv_cells S.kind hkind fun env he s1 x => ?_))
  subst he
  refine ⟨(e0.mod.nolimit.keeps fun b o e => (e0.bs b o e).1).keeps x.toInCall.keep, codeAny_func ?_⟩
  obtain ⟨t, ht, hq⟩ := hbody A outer s H vs Q E p hot (hr.deeper _) hsp
  have I : Inv (cxH C8.CX0 P w K mg base N qual scope f cdv A outer s H E p) [] (L2.start N vs) H s1 := inv_startH S hpin e0 (len _ _ _ _ _ hsp) r x
  refine wpAny_mono (ht.run [] s1 (L2.start N vs) H _ I hq) (fun fl s' hs => ?_) fun e s' hs => hs
  cases fl with
  | ret u => obtain ⟨v, σ', H', J, rv, q⟩ := hs; exact ⟨v, H', J.os, J.bare, J.base, J.hok, rv, q⟩
  | next => obtain ⟨σ', H', J, q⟩ := hs; exact ⟨V.non, H', J.os, J.bare, J.base, J.hok, rfl, q⟩
  | brk => obtain ⟨_, _, _, q⟩ := hs; exact q.elim
  | cont => obtain ⟨_, _, _, q⟩ := hs; exact q.elim
section
variable {X : Cx} {k : Nat} {f : Addr} {fd : FuncData} {ps : List Str} {sp : EO → Sp} {x : Str} {q pos : Pos} {e : Expr} {es : List Expr} {t : TA} {p : EO}
theorem pe_callE (F : FnE X.prog X.w X.K X.mg X.base k f fd ps sp) (hr : RoomH k X.A) (hot : Hot1 X.A p) (hp : p ∈ X.pn) (hg : Gl X x) (hm : X.mg x = some (.ref f)) (hk : PySem.W.keepIn X.K (.ref f) = true) (hb : Binds X.K fd ps [])
    (ha : PA X (e :: es) t) (hdb : (x == ("__debug__" : Str)) = false := by decide) (he : starEach (e :: es) X.env = (false, eval e X.env) :: starEach es X.env := by rfl) (hpl : (backTo pos (starEach es X.env)).any (·.1) = false := by rfl) :
    PE X (.Call (.Name x q) (e :: es) [] pos) (fun σ H Q => t σ H fun vs H1 => sp p vs H1 Q C8.E0) := by
  refine ⟨fun pins s σ H Q I h => ?_⟩
  refine wpAny_Call_Name_kw (ld_glob I hg hm ?_ hdb)
  refine PySem.W.callWith_K (h₀ := X.base) I.ok.mod.kin hk (thn (ha.run pos pins s σ H _ I h) fun us s1 ⟨vs, H1, I1, r, q⟩ => ⟨I1.kIn, ?_⟩) he hpl
  have b := hb s1 us I1.kIn (by rw [List.append_nil, ← r.length]; exact F.len _ _ _ _ _ q)
  rw [List.append_nil] at b
  obtain ⟨P1, P2, P3, P4, P5⟩ := I1.pin p (List.mem_append_left _ hp)
  have hpin : PinOk X.stack H1 s1 p := ⟨P1, P2, fun hm => (List.mem_cons.mp (I1.stkSub p.1 hm)).elim P3 P4, P5⟩
  refine wpAny_call (codeAny_mono (F.run X.A X.stack s1 H1 ⟨us, []⟩ us vs Q C8.E0 p hr hot hpin I1.env0 b r q) fun r s' hq => ?_)
  cases r with
  | error e => exact (show False from hq).elim
  | ok fl => cases fl <;> first | exact I1.after hq | exact False.elim hq
/-- isinstance(e, c) of the exception that is handled -/
theorem call_isP {D : Addr} (C : ExcC X.K D) (hp : p ∈ X.pn) (hz : Zc (.ref D) none p.2) (hf : ∃ vs, p.2.data = .fields vs) : CallR X (.builtin "isinstance") (rIsE X.K D p.1) := by
  intro pins s σ H xs us Q I r ⟨c, cv, b, e0, hcv, e, q⟩
  subst e0
  cases r with
  | cons rx rr =>
    cases rr with
    | cons rt rr =>
      cases rr
      cases rx
      have ec := hcv _ rt
      subst ec
      have hget := (I.pin p (List.mem_append_left _ hp)).1
      obtain ⟨vs, hv⟩ := hf
      have J : PySem.W.InstAt s.heap p.1 p.2 D none := by
        obtain ⟨a, ⟨oc, od, oda, osl⟩⟩ := p
        obtain ⟨h1, h2⟩ := hz
        dsimp only at h1 h2 hv hget
        subst h1 h2 hv
        exact ⟨hget, rfl, rfl, trivial⟩
      exact PySem.W.kia_one (PySem.W.handS_kitx_exc C.hg C.hk C.hs C.hd C.ha C.hn C.ht C.hm) I.kIn J e (fun z => nomatch z) fun tk => ⟨.bl b, H, I.kept (t' := tk) fun _ _ z => z, rfl, q⟩
end

/-! ### data there -/
section
variable {X : Cx} {B : Bs} {W : WX} {p : EO} {fa fb : EF} {e : Expr} {pos : Pos}
/-- isinstance(e, C): b is the answer -/
def isE (a : Addr) (i : Nat) (b : Bool) : EF := fun ρ => match ρ[i]? with
  | some (.fn c) => if c = a then .ok (.st (.bool b)) ρ else .bad
  | _ => .bad
theorem pd_isE {i : Nat} {D : Addr} {b : Bool} {v : V} {cv : Value} (h : PE X e (tCB (rIsE X.K D p.1) (tCons (tVar i) (tCons (tC v) tNil)))) (hv : ∀ u, RelV v u → u = cv) (hk : PySem.W.kitOne X.K (.ref D) cv = some b) : PD X B W e (isE p.1 i b) := PE.imp h fun σ H Q ⟨Hs, ρ, sl, q⟩ => by
  unfold isE at q
  cases e0 : ρ[i]? with
  | none => rw [e0] at q; exact q.elim
  | some s =>
    rw [e0] at q
    cases s <;> first | exact q.elim | skip
    rename_i c
    dsimp only at q
    by_cases hc : c = p.1
    · rw [if_pos hc] at q
      obtain ⟨y, ey⟩ := sl_var sl e0
      have o : y = some (.ref c) := sl.ok i _ _ ey e0
      rw [hc] at o
      subst o
      exact ⟨_, ey, v, cv, b, rfl, hv, hk, q Hs H sl (.refl _) _ (.bl b)⟩
    · rw [if_neg hc] at q; exact q.elim
/-! sep.join(texts) -/
def strsD : List D → Option (List Str)
  | [] => some []
  | .str z :: ds => (strsD ds).map (z :: ·)
  | _ => none
theorem strsD_eq : ∀ {ds : List D} {ys : List Str}, strsD ds = some ys → ds = ys.map PyData.str
  | [], ys, h => by cases h; rfl
  | d :: ds, ys, h => by
    cases d <;> first | (cases h; done) | skip
    rename_i z
    unfold strsD at h
    cases e : strsD ds with
    | none => rw [e] at h; cases h
    | some zs => rw [e] at h; cases h; rw [strsD_eq e]; rfl
def joinD : D → D → Option D
  | .str a, .list ds => (strsD ds).bind fun ys => if (ys.map (·.length)).sum + ys.length * a.length ≤ 16777216 then some (.str (Txt.join a ys)) else none
  | .str a, .tuple ds => (strsD ds).bind fun ys => if (ys.map (·.length)).sum + ys.length * a.length ≤ 16777216 then some (.str (Txt.join a ys)) else none
  | _, _ => none
theorem joinD_ok {a : Str} {ds : List D} {z : D} (h : ((strsD ds).bind fun ys => if (ys.map (·.length)).sum + ys.length * a.length ≤ 16777216 then some (PyData.str (Txt.join a ys)) else none) = some z) :
    ∃ ys, ds = ys.map PyData.str ∧ (ys.map (·.length)).sum + ys.length * a.length ≤ 16777216 ∧ z = .str (Txt.join a ys) := by
  cases e : strsD ds with
  | none => rw [e] at h; cases h
  | some ys =>
    rw [e, Option.bind_some] at h
    by_cases c : (ys.map (·.length)).sum + ys.length * a.length ≤ 16777216
    · rw [if_pos c] at h; cases h; exact ⟨ys, strsD_eq e, c, rfl⟩
    · rw [if_neg c] at h; cases h
def joinF (fa fb : EF) : EF := fun ρ => (fa ρ).bind fun x ρ1 => match x with
  | .st (.str a) => (fb ρ1).bind fun y ρ2 => opt ((y.get ρ2).bind fun d => (joinD (.str a) d).map Vl.st) ρ2
  | _ => .bad
theorem pd_join {o : Expr} {apos : Pos} (ho : PD X B W o fa) (he : PD X B W e fb) (hs : starEach [e] X.env = [(false, eval e X.env)] := by rfl) (hbase : attributeBase o "join" X.env (eval o X.env) = eval o X.env := by rfl) (hline : (apos.endLine == pos.line) = true := by rfl) :
    PD X B W (.Call (.Attribute o "join" apos) [e] [] pos) (joinF fa fb) := PE.imp (pe_join ho he hs hbase hline) fun σ H Q ⟨Hs, ρ, sl, q⟩ => by
  refine ⟨Hs, ρ, sl, OP.imp (OP.bind q) fun x ρ1 Hs1 H1 _ sl1 e1 q1 v hv => ?_⟩
  cases x <;> first | exact q1.elim | skip
  rename_i d ed
  clear ed
  cases d <;> first | exact q1.elim | skip
  rename_i a
  have ev : v = .str a := Shal.str (H := H1) (.inl hv)
  subst ev
  refine ⟨⟨a, rfl⟩, Hs1, ρ1, sl1, OP.imp (OP.bind q1) fun y ρ2 Hs2 H2 _ sl2 e2 q2 u hu => ?_⟩
  cases ey : y.get ρ2 with
  | none => rw [ey] at q2; exact q2.elim
  | some d =>
    rw [ey, Option.bind_some] at q2
    cases ej : joinD (.str a) d with
    | none => rw [ej] at q2; exact q2.elim
    | some z =>
      rw [ej] at q2
      have sh := sl2.look hu ey
      cases d <;> first | (cases ej; done) | skip
      · obtain ⟨ys, rfl, h1, rfl⟩ := joinD_ok ej
        obtain ⟨r, vs, rfl, h2, rv⟩ := sh.lst sl2.sub
        rw [RepA.strs rv] at h2
        exact ⟨a, r, ys, rfl, rfl, .inl (.inl (.inl h2)), h1, q2 Hs2 H2 sl2 (.refl _) _ (.str _)⟩
      · obtain ⟨ys, rfl, h1, rfl⟩ := joinD_ok ej
        obtain ⟨r, vs, rfl, h2, rv⟩ := sh.tup sl2.sub
        rw [RepA.strs rv] at h2
        exact ⟨a, r, ys, rfl, rfl, .inr h2, h1, q2 Hs2 H2 sl2 (.refl _) _ (.str _)⟩
end

/-! ### walks and comprehensions there -/
abbrev PIDH (X : Cx) (B : Bs) (W : WX) (tg e : Expr) (f : En → O (List D)) : Prop := PIH X tg e (tID X.K X.mg B W f)
section
variable {X : Cx} {B : Bs} {W : WX} {elt tg iter e : Expr} {ifs : List Expr} {es : List Expr} {scope : Scope} {own : List (Str × Nat)} {pos : Pos} {t : Tg} {ts : List Tg} {src : En → O (List D)} {tt : BF} {fe fa : EF}
def srcL (f : EF) : En → O (List D) := fun ρ => (f ρ).bind fun x ρ1 => match x with
  | .st (.list ds) => .ok ds ρ1
  | _ => .bad
theorem PIH.imp {t t' : TI} (h : PIH X tg e t) (i : ∀ σ H R, t' σ H R → t σ H R) : PIH X tg e t' := ⟨fun pins s σ H R I q => h.run pins s σ H R I (i σ H R q)⟩
theorem pidH_seq (h : PD X B W e fa) : PIDH X B W tg e (srcL fa) := PIH.imp (pi_listH h) fun σ H R' ⟨Hs, ρ, sl, q⟩ => by
  refine ⟨Hs, ρ, sl, OP.imp (OP.bind q) fun x ρ1 Hs1 H1 ex sl1 e1 q1 v hv => ?_⟩
  cases x <;> first | exact q1.elim | skip
  rename_i d
  cases d <;> first | exact q1.elim | skip
  obtain ⟨a, vs, rfl, s, r⟩ := Shal.lst (H := Hs1) (.inl hv) (.refl _)
  exact ⟨a, vs, rfl, .inl (.inl (sl1.sub _ _ s)), q1 Hs1 H1 sl1 (.refl _) _ (walk_lst s r)⟩
theorem pgd_tpH {k : Nat} {n : Nat} (hc : HotC X) (h : PGs X es (gsD X.K B ts)) (ht : ts.length = n) (hn : (assignEach es X.env).length = n := by rfl) (hst : (assignEach es X.env).findIdx? (·.1) = none := by rfl) : PG X (.Tuple es k pos) (gD X.K B (.tp ts)) :=
  PG.imp (pg_tupH hc h hn hst) fun v σ H Q ⟨Hs, ρ, d, ρ', sl, r, hp, q⟩ => by
  cases d <;> first | (cases hp; done) | skip
  rename_i ds
  unfold Tg.put at hp
  obtain ⟨p, vs, e1, s, ra⟩ := Shal.tup (.inl r) sl.sub
  have len : ∀ {ts : List Tg} {ds : List D} {ρ ρ' : En}, Tg.puts ts ds ρ = some ρ' → ds.length = ts.length := by
    intro ts
    induction ts with
    | nil => intro ds ρ ρ' h; cases ds <;> first | rfl | cases h
    | cons t ts ih =>
      intro ds ρ ρ' h
      cases ds with
      | nil => cases h
      | cons d ds =>
        unfold Tg.puts at h
        cases e1 : Tg.put t d ρ with
        | none => rw [e1] at h; cases h
        | some ρ1 =>
          rw [e1, Option.bind_some] at h
          exact congrArg Nat.succ (ih h)
  exact ⟨p, vs, e1, s, by rw [ra.length, len hp, ht], Hs, ρ, ds, ρ', sl, ra, hp, q⟩
theorem pc_lcH (hc : HotC X) (hN : X.N.Nodup) (hi : PIDH X B W tg iter src) (ok : BlkOk X.N X.env.scope scope own)
    (hg : ∀ (s : Shared) (H : Hp) (C : Addr) (cl : List (Str × Addr)) (fp : List Addr) (B : Bs), PG (blkH X s H scope (compEnvC scope cl C X.env) fp) tg (gD X.K B t))
    (ht : ∀ (s : Shared) (H : Hp) (C : Addr) (cl : List (Str × Addr)) (fp : List Addr) (B : Bs), PTs (blkH X s H scope (compEnvC scope cl C X.env) fp) ifs (tTD X.K X.mg B W0 tt))
    (he : ∀ (s : Shared) (H : Hp) (C : Addr) (cl : List (Str × Addr)) (fp : List Addr) (B : Bs), PD (blkH X s H scope (compEnvC scope cl C X.env) fp) B W0 elt fe)
    (hv : ∀ i ∈ t.at, i ∈ own.map (·.2) := by decide) (hs : ∀ x, foldedSetIterable iter X.env x = pure x := by intro _; rfl) : PC' X B W (.ListComp elt [⟨tg, iter, ifs, 0⟩] scope pos) (compC t (own.map (·.2)) src tt fe) :=
  PE.imp (pe_lcH (g := tgA X.K t) (tt := tTA X.K X.mg tt) (te := tDA X.K X.mg fe) hc hN hi ok (fun s H C cl fp => ⟨fun pins s' σ H' v u Q I r ⟨B, q⟩ => (hg s H C cl fp B).run pins s' σ H' v u Q I r q⟩)
    (fun s H C cl fp => ⟨fun pins s' σ H' Q I ⟨B, q⟩ => (ht s H C cl fp B).run pins s' σ H' Q I q⟩) (fun s H C cl fp => ⟨fun pins s' σ H' Q I ⟨B, q⟩ => (he s H C cl fp B).run pins s' σ H' Q I q⟩) hs) fun σ H Q h => comp_read hv h
end
end DH

/-! DH4 -/
set_option maxHeartbeats 2000000
/-! DH4: a lambda without parameters handed to a def that calls it. -/
namespace DH
open PySem PySem.Spec PyProof.Rows L2 HotX L2H DL LamX

/-- the lambda's body, entered at s -/
def lamN (X : Cx) (A : Around) (outer : List Env) (s : Shared) (H : Hp) (E : XK) (scope : Scope) (f c' : Addr) : Cx :=
  { lamCx X A outer s H E scope f c' with xe := fun e s' => wpAny (model X.prog X.w) (A.deeper (lamEnv X scope s.heap.objs.size f c')) (leaving (lamEnv X scope s.heap.objs.size f c') e) (fun _ s2 => L2N.CX X.prog X.w outer H s E e s2) (fun e2 s2 => L2N.CX X.prog X.w outer H s E e2 s2) s' }
section
variable {X : Cx} {pins : List (Addr × Obj)} {σ : L2.St} {H HZ : Hp} {s s1 : Shared}
theorem Inv.xeN {Y Z : Cx} {pins : List (Addr × Obj)} {σ : L2.St} {H : Hp} {s : Shared} (I : Inv Y pins σ H s) (h : { Y with xe := Z.xe } = Z) : Inv Z pins σ H s := by
  have o := I.ok
  rw [← h]
  exact ⟨⟨o.mod, o.kind, o.glob, o.blt, o.above, o.inj, o.has, o.cab, o.hd, o.frames, o.stk, o.exf, o.bs, o.bsz, o.noex, o.exfs, o.funs, o.frf⟩, I.os, I.bare, I.base, I.loc, I.cell, I.free, I.freeC, I.pin, I.hok, I.len⟩
/-- x(), in the def that was handed the lambda -/
theorem pe_actN {CXg : CXT} {Eg : XK} {Ng : List Str} {qg : Str} {sg : Scope} {g f c' : Addr} {cdg pm ctv : Value} {params : Arguments} {body : Expr} {scope : Scope} {k i : Nat} {a : Str} {pn : List (Addr × Obj)} {xe : Value → Shared → Prop} {W : WX} {E : XK} {tb : TE} {p1 p2 : Pos} (I : Inv X pins σ H s) (L : LamS X.env.scope scope)
    (hf : s.heap.get? f = some (PySem.W.kla_obj "<lambda>" (X.env.qual ++ "<lambda>") params body scope (cloFrom X.env.cells scope.names []) pm c' ctv)) (hfn : H f = none) (hfr : f ∉ frs X.stack) (hbind : bindArgs (PySem.W.kla_fn "<lambda>" (X.env.qual ++ "<lambda>") params body scope (cloFrom X.env.cells scope.names []) pm (.ref c') ctv) ⟨[], []⟩ = pure [])
    (tk : L2N.Takes ((cxOf CXg X.prog X.w X.K X.mg X.base Ng qg sg g cdg X.A X.stack s H Eg).tr pn xe) W) (hW : ∀ cls d σ' H', E cls d H' → W cls d σ' H') (hr : Room (k + 1) (X.A.deeper (envOfC qg sg s.heap.objs.size g cdg)))
    (hbody : ∀ (A : Around) (outer : List Env) (s : Shared) (H : Hp), Room k (A.deeper (lamEnv X scope s.heap.objs.size f c')) → PE (lamN X A outer s H E scope f c') body tb) (hN : Ng[i]? = some a) (hv : Vis sg a) (hd : (a == ("__debug__" : Str)) = false := by decide) (hcd : (a == ("__classdict__" : Str)) = false := by decide) :
    PE ((cxOf CXg X.prog X.w X.K X.mg X.base Ng qg sg g cdg X.A X.stack s H Eg).tr pn xe) (.Call (.Name a p1) [] [] p2) (fun σZ HZ Q => σZ[i]? = some (some (.ref f)) ∧ HZ c' = some (CodeO c' (X.env.qual ++ "<lambda>")) ∧ tb σ HZ Q) := by
  refine ⟨fun pinsZ sZ σZ HZ Q IZ ⟨hs, hc, ht⟩ => ?_⟩
  refine wpAny_Call_Name_kw (thn ((pe_var (pos := p1) (i := i) hN hv hd hcd).run pinsZ sZ σZ HZ (fun v H1 => v = .ref f ∧ H1 = HZ) IZ ⟨.ref f, hs, rfl, rfl⟩) fun u s1 ⟨v, H1, I1, r1, ev, eH⟩ => ?_)
  subst ev
  rw [eH] at I1
  obtain rfl : u = Value.ref f := r1
  have of1 := I1.base.keep f _ hf hfn hfr (fun z => nomatch (show f ∈ ([] : List Addr) from z))
  refine PySem.W.callWith_F0 ⟨_, _, _, _, of1⟩ ?_
  have un : Un (frs X.stack) [] H HZ s.heap s1.heap := I1.base
  obtain ⟨⟨oc, vs, t, hoc, hdc, hvc⟩, _, _⟩ := I1.hok c' _ hc
  have rc : codeAny (model X.prog X.w) (X.A.deeper (envOfC qg sg s.heap.objs.size g cdg)) (.call (.ref f) ⟨[], []⟩) (CR (L2N.CX X.prog X.w) (envOfC qg sg s.heap.objs.size g cdg :: X.stack) X.prog X.w HZ s1 Q E) s1 := by
    refine PySem.W.kla_callFunE hr.depth of1 rfl L.co L.gen rfl ⟨c', oc, vs, t, rfl, hoc, hdc, hvc⟩ ?_
    rw [hbind]
    refine wpAny_pure (wpAny_newFunctionEnv (fun y hy => (L.own y hy).2) (fun y hy => absurd hy (by simp)) (fun h1 hns hsb => ⟨I1.nolimit.fresh _ hsb, ?_⟩) L.kind)
    show codeAny _ _ (.expr body (lamEnv X scope s1.heap.objs.size f c')) _ _
    have J := lam_start2 (A := X.A.deeper (envOfC qg sg s.heap.objs.size g cdg)) (outer := envOfC qg sg s.heap.objs.size g cdg :: X.stack) (E := E) (f := f) (c' := c') (tk := s1.toks + ([] : List (Str × Value)).length) I L I1.env0 hr.hd un hns (fun b o e => hsb.extBut b o (Nat.ne_of_lt (Heap.lt_size e)) (Heap.get?_push_of_some _ e))
    refine PySem.W.kla_codeExpr (wpAny_mono ((hbody _ _ s1 HZ (hr.deeper _)).run [] _ _ HZ Q (Inv.xeN J rfl) ht) (fun v s' hq => ?_) fun e s' hq => hq)
    obtain ⟨w', H', J', rv, q⟩ := hq
    exact ⟨w', H', J'.os, J'.bare, J'.base, J'.hok, rv, q⟩
  have hx := L2N.passes_call (E := E) tk hW
  refine wpAny_call (codeAny_mono rc fun r s' hq => ?_)
  cases r with
  | error e => exact hx pinsZ σZ HZ s1 e s' I1 hq
  | ok fl => cases fl <;> first | exact I1.after hq | exact False.elim hq
/-- the def that calls what it was handed: TT, what it makes of the lambda's reading -/
def GivesN (m : Nat) (X : Cx) (Ng : List Str) (x : Str) (sg : Scope) (g : Addr) (cdg : Value) (bg : List Stmt) (a : Str) (q : Str) (TT : (XK → Hp → VK → Prop) → Hp → VK → Prop) : Prop := ∀ (f c' : Addr) (s : Shared) (H : Hp) (Q : VK) (tl : XK → Hp → VK → Prop), Room m (X.A.deeper (envOfC x sg s.heap.objs.size g cdg)) →
  (∀ (W : WX) (pn : List (Addr × Obj)) (xe : Value → Shared → Prop) (E : XK) (p1 p2 : Pos), L2N.Takes ((cxOf C8.CX0 X.prog X.w X.K X.mg X.base Ng x sg g cdg X.A X.stack s H C8.E0).tr pn xe) W → (∀ cls d σ' H', E cls d H' → W cls d σ' H') →
    PE ((cxOf C8.CX0 X.prog X.w X.K X.mg X.base Ng x sg g cdg X.A X.stack s H C8.E0).tr pn xe) (.Call (.Name a p1) [] [] p2) (fun σZ HZ Q => σZ[0]? = some (some (.ref f)) ∧ HZ c' = some (CodeO c' q) ∧ tl E HZ Q)) →
  H c' = some (CodeO c' q) → TT tl H Q → ∃ t, PSs (cxOf C8.CX0 X.prog X.w X.K X.mg X.base Ng x sg g cdg X.A X.stack s H C8.E0).nox bg t ∧ t { nx := fun _ H' => Q .non H', rt := Q } (L2.start Ng [.ref f]) H
/-- the table at P with one more code object, or as it was -/
def Made (H : Hp) (P : Addr) (q : Str) (H1 : Hp) (c' : Addr) : Prop := (H1 = H ∧ ∃ ps : Array Value, H P = some (.tbl ps) ∧ H c' = some (CodeO c' q) ∧ ∃ pos, codeAmong pos ps.toList = some (.ref c')) ∨
  ∃ (ps : Array Value) (pos : Pos), H P = some (.tbl ps) ∧ H c' = none ∧ H1 = upd (upd H P (.tbl (ps ++ #[rawInt pos.line, rawInt pos.col, .ref c']))) c' (CodeO c' q)
theorem lam_makeN {c P : Addr} {q : Str} {params : Arguments} {body : Expr} {scope : Scope} {pos : Pos} {E : Value → Shared → Prop} {Q : Value → Shared → Prop} (I : Inv X pins σ H s) (TB : TabB X.base X.mg c P) (hcode : X.env.code = .ref c) (hq : X.env.qual ++ "<lambda>" = q)
    (hT : TabS H P q) (hdef : defaultsOf params X.env = ([], [])) (hfree : ∀ y ∈ scope.names, y.2 = .free → ∃ c, X.env.cells.lookup y.1 = some c)
    (h : ∀ (f c' : Addr) (pm ctv : Value) (H1 : Hp) (s' : Shared), Inv X pins σ H1 s' → Made H P q H1 c' →
      s'.heap.get? f = some (PySem.W.kla_obj "<lambda>" (X.env.qual ++ "<lambda>") params body scope (cloFrom X.env.cells scope.names []) pm c' ctv) → H1 f = none → f ∉ frs X.stack → H1 c' = some (CodeO c' q) → Q (.ref f) s') :
    wpAny (model X.prog X.w) X.A (eval (.Lambda params body scope pos) X.env) Q E s := by
  subst hq
  obtain ⟨ps, hP, ht, ha⟩ := hT
  refine PySem.W.kla_eval hdef ?_
  have bP : s.heap.BuiltinsAt X.mg P := TB.bm.keeps I.bk
  have hP2 : s.heap.get? P = some { cls := .none, data := .fields ps } := I.hok P _ hP
  have nofr : ∀ f, s.heap.objs.size ≤ f → f ∉ frs X.stack := fun f hf z => (List.mem_cons.mp (I.stkSub _ z)).elim (fun e => by
    have h1 := I.lt
    rw [← e] at h1
    exact Nat.lt_irrefl _ (Nat.lt_of_lt_of_le h1 hf)) (I.nofs hf)
  cases hc : codeAmong pos ps.toList with
  | none =>
    refine PySem.W.kla_makeFunction (mg := X.mg) (c := c) (P := P) (ps := ps) (closure_ok hfree) I.ok.glob (I.mod.glob.keeps I.bk) hcode (TB.code.keeps I.bk) hP2 ht hc TB.gP bP fun c' ctv h' tk hx hge hlt ⟨c2, oc, vs, t, e2, hoc, hd, hv⟩ htb => ?_
    cases e2
    have nC : H c' = none := I.hok.fresh hge
    have I1 := inv_table (t' := tk) (more := #[rawInt pos.line, rawInt pos.col, .ref c']) (h' := h'.push (PySem.W.kla_obj "<lambda>" (X.env.qual ++ "<lambda>") params body scope (cloFrom X.env.cells scope.names []) ((X.mg "__name__").getD .none) c' ctv)) I hP (fun b o hb e => Heap.get?_push_of_some _ (hx b o hb e)) (Heap.get?_push_of_some _ htb) hge ⟨oc, vs, t, Heap.get?_push_of_some _ hoc, hd, hv⟩
    have hsz : s.heap.objs.size ≤ h'.objs.size := Nat.le_trans hge (Nat.le_of_lt hlt)
    refine h h'.objs.size c' ((X.mg "__name__").getD .none) ctv _ _ I1 (.inr ⟨ps, pos, hP, nC, rfl⟩) (Heap.get?_push_size _ rfl) ?_ (nofr _ hsz) upd_same
    rw [upd_ne (Nat.ne_of_gt hlt), upd_ne (Nat.ne_of_gt (Nat.lt_of_lt_of_le (Heap.lt_size hP2) hsz))]
    exact I.hok.fresh hsz
  | some cv =>
    obtain ⟨c', e, hco⟩ := ha pos cv hc
    subst e
    refine PySem.W.kla_makeFunctionHit (mg := X.mg) (c := c) (P := P) (ps := ps) (closure_ok hfree) I.ok.glob (I.mod.glob.keeps I.bk) hcode (TB.code.keeps I.bk) hP2 ht hc bP fun ctv h' tk hx hsz => ?_
    exact h h'.objs.size c' ((X.mg "__name__").getD .none) ctv H _ (I.kept fun b o e => Heap.get?_push_of_some _ (hx b o e)) (.inl ⟨rfl, ps, hP, hco, pos, hc⟩) (Heap.get?_push_size _ rfl) (I.hok.fresh hsz) (nofr _ hsz) hco
/-- x(lambda: body) -/
theorem pe_lamN {TT : (XK → Hp → VK → Prop) → Hp → VK → Prop} {x a q : Str} {g c P : Addr} {k : Nat} {pg : Arguments} {bg : List Stmt} {sg : Scope} {dV kV doc pm cdv ct oc : Value} {an od : Option Addr} {osl : Array (Option Value)} {Ng : List Str} {params : Arguments} {body : Expr} {scope : Scope} {t : XK → TE} {p lpos pos : Pos}
    (hg : Gl X x) (hm : X.mg x = some (.ref g)) (hk : PySem.W.keepIn X.K (.ref g) = true) (lk : X.K.lookup g = some ⟨oc, od, .func (PySem.W.fnOf x x pg bg sg dV kV doc pm an cdv ct), osl⟩) (hcg : PySem.W.codeIn X.K cdv x = true) (hb : L2.Binds X.K (PySem.W.fnOf x x pg bg sg dV kV doc pm an cdv ct) [a] []) (Sg : FnScope Ng [a] sg)
    (hNg : Ng[0]? = some a) (hva : Vis sg a) {m : Nat} (hG : GivesN m X Ng x sg g cdv bg a q TT) (TB : TabB X.base X.mg c P) (hcode : X.env.code = .ref c) (hq : X.env.qual ++ "<lambda>" = q) (hr : Room (k + 2) X.A) (hk1 : m ≤ k + 1) (L : LamS X.env.scope scope) (hdef : defaultsOf params X.env = ([], []))
    (hbind : ∀ (q : Str) (cl : List (Str × Addr)) (pm cv ctv : Value), bindArgs (PySem.W.kla_fn "<lambda>" q params body scope cl pm cv ctv) ⟨[], []⟩ = pure []) (hbody : ∀ (A : Around) (outer : List Env) (s : Shared) (H : Hp) (E : XK) (f c' : Addr), Room k (A.deeper (lamEnv X scope s.heap.objs.size f c')) → PE (lamN X A outer s H E scope f c') body (t E))
    (hdb : (x == ("__debug__" : Str)) = false := by decide) (hd : (a == ("__debug__" : Str)) = false := by decide) (hcd : (a == ("__classdict__" : Str)) = false := by decide) :
    PE X (.Call (.Name x p) [.Lambda params body scope lpos] [] pos) (fun σ H Q => TabS H P q ∧ ∀ H1 c', Made H P q H1 c' → TT (fun E H' Q' => t E σ H' Q') H1 Q) := by
  refine ⟨fun pins s σ H Q I ⟨hT, h⟩ => ?_⟩
  refine wpAny_Call_Name_kw (ld_glob I hg hm ?_ hdb)
  refine PySem.W.callWith_K (h₀ := X.base) I.ok.mod.kin hk ?_ (by rfl) (by rfl)
  show wpAny _ _ (spliced ((false, eval (.Lambda params body scope lpos) X.env) :: backTo pos (starEach [] X.env))) _ _ s
  refine Calls.spliced_cons (lam_makeN I TB hcode hq hT hdef (L.has I.ok) fun f c' pm' ctv H1 s' I1 hM hf hfn hfr hco => Calls.spliced_nil ⟨I1.kIn, ?_⟩)
  have rc : codeAny (model X.prog X.w) X.A (.call (.ref g) ⟨[.ref f], []⟩) (CR C8.CX0 X.stack X.prog X.w H1 s' Q C8.E0) s' := by
    refine run_ofS (N := Ng) (ps := [a]) (us := [.ref f]) (vs := [.ref f]) lk hcg Sg hr I1.env0 (hb s' [.ref f] I1.kIn rfl) (.cons rfl .nil) rfl fun hr' => ?_
    obtain ⟨t', ht', hq'⟩ := hG f c' s' H1 Q (fun E H' Q' => t E σ H' Q') (hr'.mono hk1) (fun W pn xe E p1 p2 tk hW => by
      have z := pe_actN (i := 0) (p1 := p1) (p2 := p2) I1 L hf hfn hfr (hbind _ _ _ _ _) tk hW hr' (fun A outer s H hr2 => hbody A outer s H E f c' hr2) hNg hva hd hcd
      rw [hq] at z
      exact z) hco (h H1 c' hM)
    exact ⟨t', ht'.nox, hq'⟩
  refine wpAny_call (codeAny_mono rc fun r s2 hq => ?_)
  cases r with
  | error e => exact (show False from hq).elim
  | ok fl => cases fl <;> first | exact I1.after hq | exact False.elim hq
end
end DH

/-! DH5 -/
set_option maxHeartbeats 2000000
/-! DH5: the def that names what was refused; the def that asks. -/
namespace DH
open PySem PySem.Spec PyProof.Rows L2 HotX L2H DL LamX

/-! ### tables of code objects as a slot -/
section
variable {K : Fg} {B : Bs} {Hs H H1 : Hp} {σ : L2.St} {ρ : En}
theorem Sl.made {i : Nat} {T : List (Addr × Str)} {P c' : Addr} {q : Str} (sl : Sl K B Hs H σ ρ) (hi : ρ[i]? = some (.tab T)) (hu : ∀ p ∈ T, p.1 = P → p.2 = q) (hP : ∃ p ∈ T, p.1 = P) (m : Made H P q H1 c') : Sl K B Hs H1 σ ρ := by
  rcases m with ⟨rfl, _⟩ | ⟨ps, pos, h1, h2, rfl⟩
  · exact sl
  obtain ⟨y, ey⟩ := sl_var sl hi
  obtain ⟨F, fe⟩ := sl.feet
  obtain ⟨tf, tn⟩ : Feet K B Hs H y (.tab T) (F i) := fe.at_ i y _ ey hi
  have inP : P ∈ F i := by
    obtain ⟨p, hp, e⟩ := hP
    rw [← e]; exact (tf.2 p hp).1
  have nPc : P ≠ c' := ne_of_none h1 h2
  have sP : Hs P = none := (tf.1 P inP).2
  have sc : Hs c' = none := sl.sub.free h2
  generalize hQ : (ps ++ #[rawInt pos.line, rawInt pos.col, .ref c'] : Array Value) = ps2
  have at_ : ∀ b, b ≠ P → b ≠ c' → upd (upd H P (.tbl ps2)) c' (CodeO c' q) b = H b := fun b a1 a2 => by rw [upd_ne a2, upd_ne a1]
  have atP : upd (upd H P (.tbl ps2)) c' (CodeO c' q) P = some (.tbl ps2) := by rw [upd_ne nPc, upd_same]
  have atc : upd (upd H P (.tbl ps2)) c' (CodeO c' q) c' = some (CodeO c' q) := upd_same
  have nc : ∀ b o, H b = some o → b ≠ c' := fun b o e z => by rw [z, h2] at e; cases e
  -- what is neither P nor new
  have kp : ∀ b o, H b = some o → b ≠ P → upd (upd H P (.tbl ps2)) c' (CodeO c' q) b = some o := fun b o e n => by rw [at_ b n (nc b o e)]; exact e
  have sub : Same Hs (upd (upd H P (.tbl ps2)) c' (CodeO c' q)) := fun b o e => kp b o (sl.sub b o e) fun z => by rw [z, sP] at e; cases e
  have mayP : B.nw P ∨ B.own0 P := tn P inP
  have notc : ∀ j, c' ∉ F j := fun j hm => by
    cases e : ρ[j]? with
    | none => rw [fe.out j e] at hm; cases hm
    | some s =>
      obtain ⟨x, ex⟩ := sl_var sl e
      obtain ⟨⟨o, eo, _⟩, _⟩ := (fe.at_ j x s ex e).there (sl.ok j x s ex e) c' hm
      rw [h2] at eo; cases eo
  have tf2 : TabF Hs (upd (upd H P (.tbl ps2)) c' (CodeO c' q)) T (c' :: F i) := by
    have code_ne : ∀ b r, H b = some (CodeO b r) → b ≠ P := fun b r e z => by
      rw [z, h1] at e
      have z2 : HO.tbl ps = CodeO P r := Option.some.inj e
      exact codeO_ne ps z2.symm
    refine ⟨fun a hm => ?_, fun p hp => ?_⟩
    · rcases List.mem_cons.mp hm with rfl | hm
      · exact ⟨⟨_, atc, fun xs z => by unfold CodeO at z; cases z⟩, sc⟩
      · obtain ⟨⟨o, eo, nt⟩, z⟩ := tf.1 a hm
        by_cases hb : a = P
        · subst hb; exact ⟨⟨_, atP, fun xs z => by cases z⟩, z⟩
        · exact ⟨⟨o, kp a o eo hb, nt⟩, z⟩
    · obtain ⟨m0, ps0, g1, g2, g3⟩ := tf.2 p hp
      refine ⟨List.mem_cons_of_mem _ m0, ?_⟩
      by_cases hb : p.1 = P
      · have eq := hu p hp hb
        rw [hb] at g1
        rw [h1] at g1
        cases g1
        refine ⟨ps2, by rw [hb]; exact atP, ?_, fun p' cv hc => ?_⟩
        · rw [← hQ, show (ps ++ #[rawInt pos.line, rawInt pos.col, Value.ref c']).toList = ps.toList ++ [rawInt pos.line, rawInt pos.col, .ref c'] by simp]
          exact PySem.TriplesOk_snoc _ _ _ _ g2
        · rw [← hQ, show (ps ++ #[rawInt pos.line, rawInt pos.col, Value.ref c']).toList = ps.toList ++ [rawInt pos.line, rawInt pos.col, .ref c'] by simp] at hc
          rcases among_app _ g2 hc with z | z
          · obtain ⟨c0, i0, e1, e2⟩ := g3 p' cv z
            exact ⟨c0, List.mem_cons_of_mem _ i0, e1, kp _ _ e2 (code_ne c0 _ e2)⟩
          · exact ⟨c', List.mem_cons_self, z, by rw [eq]; exact atc⟩
      · refine ⟨ps0, kp _ _ g1 hb, g2, fun p' cv hc => ?_⟩
        obtain ⟨c0, i0, e1, e2⟩ := g3 p' cv hc
        exact ⟨c0, List.mem_cons_of_mem _ i0, e1, kp _ _ e2 (code_ne c0 _ e2)⟩
  have tn2 : ∀ a ∈ c' :: F i, B.nw a ∨ B.own0 a := fun a hm => by
    rcases List.mem_cons.mp hm with rfl | hm
    · exact .inl (sl.nw_of h2)
    · exact tn a hm
  have kj : ∀ (j : Nat), i ≠ j → ∀ a ∈ F j, ∀ o, H a = some o → upd (upd H P (.tbl ps2)) c' (CodeO c' q) a = some o := fun j hij a hm o e => kp a o e fun z => fe.dis i j hij a (by rw [z]; exact inP) hm
  refine ⟨sl.len, fun j x s a b => ?_, sub, sl.base, fun a => ?_, fun a o e w w1 => ?_, fun a w => ?_, fun j => if i = j then c' :: F i else F j, ⟨fun j x s a b => ?_, fun j a => ?_, fun j k hjk a ha hb => ?_⟩⟩
  · by_cases hij : i = j
    · subst hij
      rw [hi] at b; cases b
      exact ⟨_, tf2, tn2⟩
    · exact (sl.ok j x s a b).stays (fe.at_ j x s a b) (.refl _) (kj j hij) fun _ _ z => z
  · rcases sl.new a with z | z | z | ⟨xs, z⟩
    · exact .inl z
    · exact .inr (.inl z)
    · exact .inr (.inr (.inl z))
    · refine .inr (.inr (.inr ⟨xs, kp a _ z fun e => ?_⟩))
      rw [e, h1] at z; cases z
  · refine kp a o (sl.keep a o e w w1) fun z => ?_
    subst z
    rcases mayP with (y | y) | y
    · rw [e] at y; cases y
    · exact w1 y
    · exact w y
  · obtain ⟨o, e⟩ := sl.there a w
    by_cases z : a = P
    · exact ⟨_, by rw [z]; exact atP⟩
    · exact ⟨o, kp a o e z⟩
  · by_cases hij : i = j
    · subst hij
      rw [hi] at b; cases b
      rw [if_pos rfl]
      exact ⟨tf2, tn2⟩
    · rw [if_neg hij]
      exact (fe.at_ j x s a b).mono (.refl _) (kj j hij) fun _ _ z => z
  · by_cases hij : i = j
    · subst hij; rw [hi] at a; cases a
    · rw [if_neg hij]; exact fe.out j a
  · by_cases e1 : i = j
    · rw [if_pos e1] at ha
      rw [if_neg (fun z => hjk (e1.symm.trans z))] at hb
      rcases List.mem_cons.mp ha with rfl | ha
      · exact notc k hb
      · exact fe.dis i k (fun z => hjk (e1.symm.trans z)) a ha hb
    · rw [if_neg e1] at ha
      by_cases e2 : i = k
      · rw [if_pos e2] at hb
        rcases List.mem_cons.mp hb with rfl | hb
        · exact notc j ha
        · exact fe.dis i j e1 a hb ha
      · rw [if_neg e2] at hb
        exact fe.dis j k hjk a ha hb
end
end DH

/-! DH6 -/
set_option maxHeartbeats 2000000
/-! DH6: the def that names what was refused; the def that asks. -/
namespace DH
open PySem PySem.Spec PyProof.Rows L2 HotX L2H DL LamX

/-- names of classes, each with its word -/
abbrev Kt := List (Str × Str)
def spKind (K : Fg) (mg : MG) (kt : Kt) : EO → Sp := fun p vs H Q E => ∃ x C z, vs = [.ref p.1] ∧ mg x = some (.ref C) ∧ (x, z) ∈ kt ∧ Zc (.ref C) none p.2 ∧ (∃ v, p.2.data = .fields v) ∧ ∀ H', Same H H' → Q (.str z) H'
structure DefKind (P : Program) (w : World) (K : Fg) (mg : MG) (base : Heap) (k : Nat) (x : Str) (f : Addr) (ps : List Str) (kt : Kt) : Prop where
  ex : ∃ fd, mg x = some (.ref f) ∧ PySem.W.keepIn K (.ref f) = true ∧ FnE P w K mg base k f fd ps (spKind K mg kt) ∧ Binds K fd ps []
/-- what is known of the classes: isinstance asks them rightly -/
structure KindK (K : Fg) (mg : MG) (kt : Kt) : Prop where
  g : ∀ p ∈ kt, mg p.1 = some (.ref (He.ga K p.1))
  c : ∀ p ∈ kt, ExcC K (He.ga K p.1)
  i : ∀ p ∈ kt, ∀ q ∈ kt, PySem.W.kitOne K (.ref (He.ga K p.1)) (.ref (He.ga K q.1)) = some (p.1 == q.1)
  v : ∀ p ∈ kt, PySem.W.kitOne K (.ref (He.ga K p.1)) (.type "ValueError") = some true
theorem slH {K : Fg} {H : Hp} {a : Addr} {N : List Str} (hn : 1 ≤ N.length) : Sl K ⟨fun _ => none, H, fun _ => False, fun _ => False, fun _ => False, fun _ => none⟩ (fun _ => none) H (start N [.ref a]) (.fn a :: List.replicate (N.length - 1) .un) := sl_scr (K := K) (fun _ _ z => by cases z) hn
section
variable {P : Program} {w : World} {K : Fg} {mg : MG} {base : Heap}
theorem defKind {x : Str} {st : Stmt} {f : Addr} {fd : FuncData} {N : List Str} {s0 : Str} {k : Nat} {kt : Kt} {body : Addr → Str → SF} (F : FunD K x x (defArgs st) (defBody st) (defScope st) [] [] f fd) (S : FnScope N [s0] (defScope st)) (KK : KindK K mg kt) (hb : Binds K fd [s0] []) (hm : mg x = some (.ref f))
    (hrun : ∀ a, ∀ p ∈ kt, ∃ ρ', body a p.1 (.fn a :: List.replicate (N.length - 1) .un) = .rt (.str p.2) false ρ')
    (der : ∀ (p : EO) (cdv : Value) (A : Around) (outer : List Env) (s : Shared) (H : Hp) (E : XK) (B : Bs), RoomH k (A.deeper (envOfC x (defScope st) s.heap.objs.size f cdv)) → ∀ q ∈ kt, HotC (cxH C8.CX0 P w K mg base N x (defScope st) f cdv A outer s H E p) →
      (∀ c v cv b, (∀ u, RelV v u → u = cv) → PySem.W.kitOne K (.ref (He.ga K q.1)) cv = some b → PE (cxH C8.CX0 P w K mg base N x (defScope st) f cdv A outer s H E p) c (tCB (rIsE K (He.ga K q.1) p.1) (tCons (tVar 0) (tCons (tC v) tNil))) → PD (cxH C8.CX0 P w K mg base N x (defScope st) f cdv A outer s H E p) B W0 c (isE p.1 0 b)) →
      CallR (cxH C8.CX0 P w K mg base N x (defScope st) f cdv A outer s H E p) (.builtin "isinstance") (rIsE K (He.ga K q.1) p.1) →
      PSsD (cxH C8.CX0 P w K mg base N x (defScope st) f cdv A outer s H E p) B W0 (defBody st) (body p.1 q.1)) :
    DefKind P w K mg base (k + 1) x f [s0] kt := by
  have hn : 1 ≤ N.length := by
    have h := congrArg List.length S.pre
    rw [List.length_take] at h
    have h : min 1 N.length = 1 := h
    omega
  obtain ⟨oc, od, dV, kV, doc, pm, an, cdv, ct, osl, e, lk, hcd, _, _⟩ := F.ex
  subst e
  refine ⟨_, hm, F.kp, fn_ofE lk hcd S (fun p vs H Q E h => ?_) (fun A outer s H vs Q E p hot hr h => ?_), hb⟩
  · obtain ⟨_, _, _, rfl, _⟩ := h; rfl
  obtain ⟨y, C, z, rfl, hg, hin, hz, hf, q⟩ := h
  have eC := KK.g _ hin
  rw [hg] at eC
  cases eC
  have hp : p ∈ (cxH C8.CX0 P w K mg base N x (defScope st) f cdv A outer s H E p).pn := List.mem_singleton_self p
  obtain ⟨ρ', er⟩ := hrun p.1 _ hin
  have d := der p cdv A outer s H E ⟨fun _ => none, H, fun _ => False, fun _ => False, fun _ => False, fun _ => none⟩ hr _ hin ⟨p, hot, hp⟩ (fun c v cv b hv hk h => pd_isE h hv hk) (call_isP (KK.c _ hin) hp hz hf)
  refine ⟨_, d, fun _ => none, _, slH hn, ?_⟩
  rw [er]
  exact fun σ' Hs' H' v sl _ ro => by
    have ev : v = .str z := Shal.str (K := K) (Hs := Hs') (H := H') (.inl ro)
    rw [ev]
    exact q H' sl.growth.h
end

/-! ### try: a() / except X as e: return kind(e) / return '' -/
def TTw (mg : MG) (kt : Kt) (tl : XK → Hp → VK → Prop) (H : Hp) (Q : VK) : Prop :=
  tl (fun cls od H' => ∃ x C z, mg x = some (.ref C) ∧ cls = .ref C ∧ od = none ∧ (x, z) ∈ kt ∧ ∀ H'', Same H' H'' → Q (.str z) H'') H fun _ H' => Q (.str (Str.ofString "")) H'
theorem takes0N {X : Cx} : L2N.Takes X (fun _ _ _ _ => False) := fun _ _ x => by
  obtain ⟨_, _, _, _, _, _, _, _, _, _, _, _, _, _, _, _, z⟩ := x
  exact z.elim
structure DefWord (P : Program) (w : World) (K : Fg) (mg : MG) (base : Heap) (k : Nat) (x : Str) (f : Addr) (kt : Kt) : Prop where
  ex : ∃ (pg : Arguments) (bg : List Stmt) (sg : Scope) (dV kV doc pm cdv ct oc : Value) (an od : Option Addr) (osl : Array (Option Value)) (Ng : List Str) (a : Str), mg x = some (.ref f) ∧ PySem.W.keepIn K (.ref f) = true ∧
    K.lookup f = some ⟨oc, od, .func (PySem.W.fnOf x x pg bg sg dV kV doc pm an cdv ct), osl⟩ ∧ PySem.W.codeIn K cdv x = true ∧ L2.Binds K (PySem.W.fnOf x x pg bg sg dV kV doc pm an cdv ct) [a] [] ∧ FnScope Ng [a] sg ∧ Ng[0]? = some a ∧ Vis sg a ∧ (a == ("__debug__" : Str)) = false ∧ (a == ("__classdict__" : Str)) = false ∧
    ∀ (X : Cx) (q : Str), X.prog = P → X.w = w → X.K = K → X.mg = mg → X.base = base → GivesN k X Ng x sg f cdv bg a q (TTw mg kt)
theorem defWord {P : Program} {w : World} {K : Fg} {mg : MG} {base : Heap} {x a e tcls kd : Str} {st : Stmt} {f fk T : Addr} {fd : FuncData} {Ng psk : List Str} {k : Nat} {kt : Kt} {j : Nat} {p1 p2 p3 p4 p5 p6 p7 p8 p9 p10 p11 p12 : Pos} (F : FunD K x x (defArgs st) (defBody st) (defScope st) [] [] f fd) (S : FnScope Ng [a] (defScope st)) (hb : Binds K fd [a] []) (hm : mg x = some (.ref f)) (hN : Ng = [a, e])
    (hst : defBody st = [.Try [.Expr (.Call (.Name a p1) [] [] p2) p3] [.ExceptHandler (some (.Name tcls p4)) (some e) [.Return (some (.Call (.Name kd p5) [.Name e p6] [] p7)) p8] p9] [] [] p10, .Return (some (.Constant (.str (Str.ofString "")) j p11)) p12])
    (hva : Vis (defScope st) a) (he : (defScope st).names.lookup e = some .local) (hd : (a == ("__debug__" : Str)) = false) (hd1 : (a == ("__classdict__" : Str)) = false) (hde : (e == ("__debug__" : Str)) = false) (hde1 : (e == ("__classdict__" : Str)) = false)
    (ht : (defScope st).names.lookup tcls = some .globalImplicit) (hmt : mg tcls = some (.ref T)) (hdt : (tcls == ("__debug__" : Str)) = false) (hkd : (defScope st).names.lookup kd = some .globalImplicit) (hdk : (kd == ("__debug__" : Str)) = false)
    (hx : ∀ p ∈ kt, PySem.W.exmOne K (.ref (He.ga K p.1)) (.ref T) = some true) (hg : ∀ p ∈ kt, mg p.1 = some (.ref (He.ga K p.1))) (G : DefKind P w K mg base k kd fk psk kt) : DefWord P w K mg base k x f kt := by
  obtain ⟨oc, od, dV, kV, doc, pm, an, cdv, ct, osl, ee, lk, hcd, _, _⟩ := F.ex
  subst ee
  refine ⟨_, _, defScope st, dV, kV, doc, pm, cdv, ct, oc, an, od, osl, Ng, a, hm, F.kp, lk, hcd, hb, S, by rw [hN]; rfl, hva, hd, hd1, fun X q e1 e2 e3 e4 e5 => ?_⟩
  subst e1 e2 e3 e4 e5
  intro ff c' s H Q tl hr act hc h
  obtain ⟨fdk, gk, kk, Fk, Bk⟩ := G.ex
  rw [hst]
  have nd : Ng.Nodup := S.nd
  have su : ∀ (a0 : Addr) (oe : Obj) (cls : Value) (d : Option Addr) (pn : List (Addr × Obj)), L2N.Zn cls d oe → (∃ vs, oe.data = .fields vs) →
      PSs (((cxOf C8.CX0 X.prog X.w X.K X.mg X.base Ng x (defScope st) f cdv X.A X.stack s H C8.E0).nox).suite a0 ((a0, oe) :: pn)) [.Return (some (.Call (.Name kd p5) [.Name e p6] [] p7)) p8]
        (fun D σ H => (1 < σ.length → σ[1]? = some (some (V.ref a0))) ∧ ∃ y C z, X.mg y = some (.ref C) ∧ cls = .ref C ∧ d = none ∧ (y, z) ∈ kt ∧ ∀ H', Same H H' → D.rt (.str z) H') := fun a0 oe cls d pn hz ⟨vs, hv⟩ => by
    have pc := pe_callE (X := ((cxOf C8.CX0 X.prog X.w X.K X.mg X.base Ng x (defScope st) f cdv X.A X.stack s H C8.E0).nox).suite a0 ((a0, oe) :: pn)) (q := p5) (pos := p7) (p := (a0, oe)) (es := []) Fk ⟨hr.dp, hr.un⟩ ⟨rfl, vs, hv, hz.2.2 vs hv⟩ List.mem_cons_self hkd gk kk Bk
      (pa_cons (pe_var (pos := p6) (i := 1) (by show Ng[1]? = some e; rw [hN]; rfl) (.inl he) hde hde1) pa_nil) hdk
    refine ⟨fun pins s' σ H' D I ⟨h1, y, C, z, h2, h3, h4, h5, h6⟩ => ?_⟩
    subst h3 h4
    exact (pss_one (ps_ret (pos := p8) pc)).run pins s' σ H' D I ⟨_, h1 (by rw [I.len]; show 1 < Ng.length; rw [hN]; exact Nat.le_refl 2), y, C, z, rfl, h2, h5, hz.zc, ⟨vs, hv⟩, h6⟩
  refine ⟨_, pss_cons (L2N.ps_try_as (i := 1) (tb := fun W D σ H => ∃ Ech : XK, (∀ cls d σ' H', Ech cls d H' → W cls d σ' H') ∧ σ[0]? = some (some (.ref ff)) ∧ H c' = some (CodeO c' q) ∧ tl Ech H fun _ H' => D.nx σ H') rfl rfl nd (by show Ng[1]? = some e; rw [hN]; rfl) he ⟨ht, hdt, .inl hmt⟩ takes0N (fun W pn xe tk _ => ?_) su) (pss_one (ps_ret pe_str)), ?_⟩
  · refine ⟨fun pins s' σ H' D I ⟨Ech, hW, h1, h2, h3⟩ => ?_⟩
    exact (pss_one (ps_expr (pos := p3) (act W pn xe Ech p1 p2 tk hW))).run pins s' σ H' D I ⟨h1, h2, h3⟩
  · have st0 : L2.start Ng [V.ref ff] = [some (.ref ff), none] := by rw [hN]; rfl
    refine ⟨fun cls od H' => ∃ x C z, X.mg x = some (.ref C) ∧ cls = .ref C ∧ od = none ∧ (x, z) ∈ kt ∧ ∀ H'', Same H' H'' → Q (.str z) H'', fun cls d σ' H' ⟨y, C, z, g1, g2, g3, g4, g5⟩ => ?_, by rw [st0]; rfl, hc, h⟩
    subst g2 g3
    have e1 := hg _ g4
    rw [g1] at e1
    cases e1
    refine ⟨true, hx _ g4, fun _ a0 na => ⟨fun l => List.getElem?_set_self (by rw [List.length_set] at l; exact l), y, _, z, g1, rfl, rfl, g4, g5⟩, fun z => by cases z⟩

/-! ### the call, as data -/
/-- word(lambda: e): what was refused, as a word -/
def wordF (kt : Kt) (f : EF) : EF := fun ρ => match f ρ with
  | .ok _ ρ1 => .ok (.st (.str (Str.ofString ""))) ρ1
  | .er e ρ1 => if e.fs.isEmpty = true then (match kt.lookup e.cls with
    | some z => .ok (.st (.str z)) ρ1
    | none => .bad) else .bad
  | .bad => .bad
/-- the tables are at hand -/
def lamF (i : Nat) (T : List (Addr × Str)) (f : EF) : EF := fun ρ => match ρ[i]? with
  | some (.tab T2) => if T2 = T then f ρ else .bad
  | _ => .bad
theorem lookup_mem {x z : Str} : ∀ {kt : Kt}, kt.lookup x = some z → (x, z) ∈ kt
  | [], h => by cases h
  | (y, w) :: r, h => by
    rw [List.lookup_cons] at h
    cases e : x == y with
    | true => rw [e] at h; cases h; rw [eq_of_beq e]; exact List.mem_cons_self
    | false => rw [e] at h; exact List.mem_cons_of_mem _ (lookup_mem h)
theorem pd_word {X : Cx} {B : Bs} {W : WX} {kt : Kt} {x : Str} {g c P : Addr} {k i : Nat} {params : Arguments} {body : Expr} {scope : Scope} {p lpos pos : Pos} {f : EF} {q : Str} {T : List (Addr × Str)} (G : DefWord X.prog X.w X.K X.mg X.base (k + 1) x g kt) (hg : Gl X x) (TB : TabB X.base X.mg c P) (hcode : X.env.code = .ref c) (hq : X.env.qual ++ "<lambda>" = q) (hr : Room (k + 2) X.A)
    (L : LamS X.env.scope scope) (hdef : defaultsOf params X.env = ([], [])) (hbind : ∀ (q : Str) (cl : List (Str × Addr)) (pm cv ctv : Value), bindArgs (PySem.W.kla_fn "<lambda>" q params body scope cl pm cv ctv) ⟨[], []⟩ = pure []) (hT : ∃ p ∈ T, p.1 = P) (hu : ∀ p ∈ T, p.1 = P → p.2 = q)
    (hbody : ∀ (A : Around) (outer : List Env) (s : Shared) (H : Hp) (E : XK) (f1 c' : Addr), Room k (A.deeper (lamEnv X scope s.heap.objs.size f1 c')) → PD (lamN X A outer s H E scope f1 c') B (fun cls d _ H => E cls d H) body f) (hdb : (x == ("__debug__" : Str)) = false := by decide) :
    PD X B W (.Call (.Name x p) [.Lambda params body scope lpos] [] pos) (lamF i T (wordF kt f)) := by
  obtain ⟨pg, bg, sg, dV, kV, doc, pm, cdv, ct, oc, an, od, osl, Ng, a, hm, hk, lk, hcg, hb, Sg, hNg, hva, hd1, hd2, hG⟩ := G.ex
  refine PE.imp (pe_lamN (k := k) (t := fun E => tD X.K X.mg B (fun cls d _ H => E cls d H) f) (lpos := lpos) (p := p) (pos := pos) hg hm hk lk hcg hb Sg hNg hva (hG X q rfl rfl rfl rfl rfl) TB hcode hq hr (Nat.le_refl _) L hdef hbind hbody hdb hd1 hd2) fun σ H Q ⟨Hs, ρ, sl, z⟩ => ?_
  unfold lamF at z
  cases e0 : ρ[i]? with
  | none => rw [e0] at z; exact z.elim
  | some s0 =>
    rw [e0] at z
    cases s0 <;> first | exact z.elim | skip
    rename_i T2
    dsimp only at z
    by_cases c : T2 = T
    · rw [if_pos c] at z
      subst c
      obtain ⟨y, ey⟩ := sl_var sl e0
      obtain ⟨ff, tf, _⟩ : ∃ f, TabF Hs H T2 f ∧ ∀ a ∈ f, B.nw a ∨ B.own0 a := sl.ok i y _ ey e0
      obtain ⟨p0, hp0, ep0⟩ := hT
      have tS := tf.tabs p0 hp0
      rw [ep0, hu p0 hp0 ep0] at tS
      refine ⟨tS, fun H1 c' hM => ?_⟩
      have sl1 := Sl.made sl e0 hu ⟨p0, hp0, ep0⟩ hM
      refine ⟨Hs, ρ, sl1, ?_⟩
      unfold wordF at z
      cases ef : f ρ with
      | bad => rw [ef] at z; exact z.elim
      | ok v ρ1 =>
        rw [ef] at z
        intro Hs' H' sl2 e2 u hu2
        exact z Hs' H' sl2 e2 _ (.str _)
      | er er ρ1 =>
        rw [ef] at z
        dsimp only at z
        by_cases c0 : er.fs.isEmpty = true
        · rw [if_pos c0] at z
          cases el : kt.lookup er.cls with
          | none => rw [el] at z; exact z.elim
          | some w0 =>
            rw [el] at z
            intro cls od Hs' H' sl2 e2 eo
            obtain ⟨⟨C, g1, g2⟩, g3⟩ := eo
            have g4 : od = none := g3.elim (fun y => y.2) fun y => absurd (List.isEmpty_iff.mp c0) y.1
            refine ⟨er.cls, C, w0, g1, g2, g4, lookup_mem el, fun H'' same => ?_⟩
            exact z Hs' H'' (sl2.grow ⟨.refl _, same, sl2.sub.trans same, (Grow.refl sl2.sub).new⟩) e2 _ (.str _)
        · rw [if_neg c0] at z; exact z.elim
    · rw [if_neg c] at z; exact z.elim
end DH

/-! DH7 -/
/-! DH7: the law with tables of code objects, its end. -/
namespace DL
open PySem PySem.Spec PyProof.Rows L2 LamX
section
variable {P : Program} {w : World} {K : Fg} {mg : MG} {base : Heap}
abbrev BT (H : Hp) (T : List (Addr × Str)) : Bs := ⟨fun _ => none, H, fun b => ∃ p ∈ T, b = p.1, fun _ => False, fun _ => False, fun _ => none⟩
theorem slTab {H : Hp} {a : Addr} {N : List Str} {T : List (Addr × Str)} {m : Nat} (hn : N.length = m + 2) (hT : ∀ p ∈ T, H p.1 = some (.tbl #[])) : Sl K (BT H T) (fun _ => none) H (start N [.ref a]) ((.fn a :: List.replicate m .un) ++ [.tab T]) := by
  have tf : TabF (fun _ => none) H T (T.map (·.1)) := ⟨fun b hb => by
    obtain ⟨p, hp, e⟩ := List.mem_map.mp hb
    rw [← e]
    exact ⟨⟨_, hT p hp, fun xs z => by cases z⟩, rfl⟩, fun p hp => ⟨List.mem_map.mpr ⟨p, hp, rfl⟩, #[], hT p hp, True.intro, fun pos cv hc => by
    have z : codeAmong pos [] = some cv := hc
    simp [codeAmong] at z⟩⟩
  have tn : ∀ b ∈ T.map (·.1), (BT H T).nw b ∨ (BT H T).own0 b := fun b hb => by
    obtain ⟨p, hp, e⟩ := List.mem_map.mp hb
    exact .inr ⟨p, hp, e.symm⟩
  have len : ((Slot.fn a :: List.replicate m Slot.un) ++ [Slot.tab T]).length = m + 2 := by simp
  have look : ∀ (i : Nat) (s : Slot), ((Slot.fn a :: List.replicate m Slot.un) ++ [Slot.tab T])[i]? = some s → (i = 0 ∧ s = .fn a) ∨ (s = .un ∧ i ≠ m + 1) ∨ (i = m + 1 ∧ s = .tab T) := fun i s e => by
    cases i with
    | zero => exact .inl ⟨rfl, (Option.some.inj e).symm⟩
    | succ i =>
      rw [List.cons_append, List.getElem?_cons_succ] at e
      by_cases h : i < m
      · rw [List.getElem?_append_left (by simpa using h), List.getElem?_replicate, if_pos h] at e
        exact .inr (.inl ⟨(Option.some.inj e).symm, by omega⟩)
      · have h2 : i < m + 1 := by
          have := (List.getElem?_eq_some_iff.mp e).1
          simpa using this
        have h3 : i = m := by omega
        subst h3
        rw [List.getElem?_append_right (by simp), List.length_replicate, Nat.sub_self] at e
        exact .inr (.inr ⟨rfl, (Option.some.inj e).symm⟩)
  refine ⟨?_, fun i x s a1 b1 => ?_, fun _ _ z => (by cases z), Same.refl _, fun b => .inl rfl, fun b o e _ _ => e, fun b z => ?_, fun i => if i = m + 1 then T.map (·.1) else [], fun i x s a1 b1 => ?_, fun i e => ?_, fun i j hij b hb => ?_⟩
  · rw [len]; unfold L2.start; simp; omega
  · rcases look i s b1 with ⟨rfl, rfl⟩ | ⟨rfl, _⟩ | ⟨rfl, rfl⟩
    · have : (start N [V.ref a])[0]? = some (some (V.ref a)) := rfl
      rw [this] at a1
      exact (Option.some.inj a1).symm
    · trivial
    · exact ⟨_, tf, tn⟩
  · rcases z with ⟨p, hp, rfl⟩ | z
    · exact ⟨_, hT p hp⟩
    · exact z.elim
  · rcases look i s b1 with ⟨rfl, rfl⟩ | ⟨rfl, hi⟩ | ⟨rfl, rfl⟩
    · rw [if_neg (by omega)]; rfl
    · rw [if_neg hi]; rfl
    · rw [if_pos rfl]; exact ⟨tf, tn⟩
  · rw [if_neg]
    intro z
    subst z
    have := List.getElem?_eq_none_iff.mp e
    rw [len] at this
    omega
  · by_cases h1 : i = m + 1
    · rw [if_neg (fun z => hij (h1.trans z.symm))]; simp
    · rw [if_neg h1] at hb; cases hb
def spLawT (K : Fg) (f : List (Addr × Str) → Addr → List Int → SF) (n : Nat) (T : List (Addr × Str)) : Sp := fun vs H Q E => ∃ a ns, vs = [.ref a] ∧ SqL K H a (ns.map V.int) ∧ ns.length ≤ 63 ∧ (∀ p ∈ T, H p.1 = some (.tbl #[])) ∧ (∃ ρ', f T a ns ((.fn a :: List.replicate (n - 2) .un) ++ [.tab T]) = .rt (.bool true) false ρ') ∧ ∀ H', Q (.bl true) H'
theorem scr_atT {H : Hp} {a : Addr} {ns : List Int} {T : List (Addr × Str)} (hl : ns.length ≤ 63) (h : SqL K H a (ns.map V.int)) (hT : ∀ p ∈ T, H p.1 = some (.tbl #[])) : ScrAt K (BT H T) a ns := ⟨hl, fun Hs' H' σ ρ sl => by
  have no : ∀ o, H a = some o → (∀ ps, o ≠ .tbl ps) → ¬ ∃ p ∈ T, a = p.1 := fun o e n ⟨p, hp, z⟩ => by
    rw [z, hT p hp] at e
    exact n _ (Option.some.inj e).symm
  rcases h with (h | ⟨o, h⟩) | h
  · exact .inl (.inl (sl.keep _ _ h (no _ h fun _ z => by cases z) fun z => z))
  · exact .inl (.inr ⟨o, sl.keep _ _ h (no _ h fun _ z => by cases z) fun z => z⟩)
  · exact .inr h⟩
theorem defLawT {x : Str} {st : Stmt} {dvs : List V} {kws : List (Str × V)} {f : Addr} {fd : FuncData} {N : List Str} {s0 : Str} {k m : Nat} {T : List (Addr × Str)} {body : List (Addr × Str) → Addr → List Int → SF} (F : FunD K x x (defArgs st) (defBody st) (defScope st) dvs kws f fd) (S : FnScope N [s0] (defScope st)) (hn : N.length = m + 2)
    (der : ∀ (ns : List Int) (a : Addr) (cdv : Value) (A : Around) (outer : List Env) (s : Shared) (H : Hp) (E : XK) (B : Bs) (W : WX), fd.code = cdv → Room k (A.deeper (envOfC x (defScope st) s.heap.objs.size f cdv)) → L2N.Takes (cxOf (L2N.CX P w) P w K mg base N x (defScope st) f cdv A outer s H E) W → ScrAt K B a ns →
      PSsD (cxOf (L2N.CX P w) P w K mg base N x (defScope st) f cdv A outer s H E) B W (defBody st) (body T a ns)) : FnOk P w K mg base (L2N.CX P w) (k + 1) f fd [s0] (spLawT K body N.length T) := by
  obtain ⟨oc, od, dV, kV, doc, pm, an, cdv, ct, osl, e, lk, hcd, _, _⟩ := F.ex
  subst e
  refine fn_of lk hcd S (fun vs H Q E h => ?_) (fun A outer s H vs Q E hr h => ?_)
  · obtain ⟨a, ns, rfl, _⟩ := h
    rfl
  · obtain ⟨a, ns, rfl, hS, hl, hT, ⟨ρ', e⟩, q⟩ := h
    refine ⟨_, der ns a cdv A outer s H E (BT H T) (fun cls d _ H' => E cls d H') rfl hr (L2N.takes_of rfl rfl rfl rfl) (scr_atT hl hS hT), fun _ => none, _, slTab hn hT, ?_⟩
    rw [hn, show m + 2 - 2 = m from rfl] at e
    rw [e]
    exact fun σ' Hs' H' v sl _ ro => by
      have ev : v = .bl true := Shal.bl (K := K) (Hs := Hs') (H := H') (.inl ro)
      rw [ev]
      exact q H'
end
/-- as walk_ofEB, with the law's own table of code objects -/
theorem walk_ofET {l : PySem.W.OpenLaw} {n k : Nat} {q : Program} {loose : List Str} {XP : (Str → Option Value) → Heap → Prop} {YP : World → Heap → Prop} {d : DefRec} {CX : World → CXT} {x : Str} (hn : l.most = some n) (hn2 : n ≤ sizeLine) (hdf : d.params.defaults = []) (hr : Room k callerA)
    (F : ∀ (w : World) (mg : Str → Option Value) (fa : Addr) (h : Heap), YP w h → h.Ns mainGlobals mg → mg d.name = some (.ref fa) →
      ∃ (K : PySem.W.Frag) (fd : FuncData) (cs : List (Addr × Addr)) (sp : Sp), K.In h ∧ (∀ p ∈ cs, h.get? p.2 = some { cls := .none, data := .fields #[] }) ∧ (∀ p ∈ cs, K.lookup p.2 = none) ∧ (∀ p ∈ cs, PySem.W.CodeHd h p.1 p.2) ∧ (∀ (s : Shared) (u : Value), BindsTo s fd ⟨[u], []⟩ [(x, u)]) ∧
        (∀ (H : Hp) (a : Addr) (ns : List Int), ns.length ≤ n → (∀ z ∈ ns, Builtin.Int.intBits z ≤ 1048576) → (∀ p ∈ cs, H p.2 = some (.tbl #[])) → SqL K H a (ns.map V.int) → sp [.ref a] H (fun v _ => v = .bl true) fun _ _ _ => False) ∧
        ∀ base : Heap, K.In base → base.Ns mainGlobals mg → (∀ p ∈ cs, TabB base mg p.1 p.2) → FnOk l.prog w K mg base (CX w) k fa fd [x] sp)
    (hCX : ∀ (w : World) (H : Hp) (s : Shared) (e : Value) (s' : Shared), CX w [] H s (fun _ _ _ => False) e s' → False) : PySem.W.WalkO q loose XP YP l.row.toRowW d [] (fun f vs => PySem.call f vs) := by
  refine Att.attach_callB hn hdf fun w s₀ s₁ mg mb fa o pm cd doc a vs ns G Y ho hd hcd hmg hobj hints hlen hbits hg => ?_
  obtain ⟨K, fd, cs, sp, KX, hT, nT, C, hb, hsp, hF⟩ := F w mg fa _ Y G.T.g hmg
  exact law_callTs KX G.T.g G.T.b G.T.builtins G.T.nolimit hg hT nT C G.T.bmain hobj hints (Nat.le_trans hlen hn2) hr hF hb (fun H hH hS => hsp H a ns hlen hbits hH hS) fun H e s' => hCX w H s₁ e s'
theorem code_at {K : Fg} {x : Str} {fd : FuncData} {params : Arguments} {body : List Stmt} {scope : Scope} {dvs : List V} {kws : List (Str × V)} (F : FunD K x x params body scope dvs kws (He.ga K x) fd) : fd.code = .ref (He.cT K (x, none)).1 := by
  obtain ⟨oc, od, dV, kV, doc, pm, an, cdv, ct, osl, e, lk, hcd, _, _⟩ := F.ex
  subst e
  obtain ⟨c, rfl⟩ := He.codeIn_ref hcd
  exact congrArg Value.ref (He.codeOf_eq (p := (x, none)) lk rfl).symm
end DL

/-! DH8 -/
/-! DH8: the classes' facts, read off the head. -/
namespace DH
open PySem PySem.Spec PyProof.Rows L2 HotX L2H DL LamX
theorem DefWord.mono {P : Program} {w : World} {K : Fg} {mg : MG} {base : Heap} {j k : Nat} {x : Str} {f : Addr} {kt : Kt} (G : DefWord P w K mg base j x f kt) (h : j ≤ k) : DefWord P w K mg base k x f kt := by
  obtain ⟨pg, bg, sg, dV, kV, doc, pm, cdv, ct, oc, an, od, osl, Ng, a, h1, h2, h3, h4, h5, h6, h7, h8, h9, h10, h11⟩ := G.ex
  exact ⟨pg, bg, sg, dV, kV, doc, pm, cdv, ct, oc, an, od, osl, Ng, a, h1, h2, h3, h4, h5, h6, h7, h8, h9, h10, fun X q e1 e2 e3 e4 e5 f c' s H Q tl hr => h11 X q e1 e2 e3 e4 e5 f c' s H Q tl (hr.mono h)⟩
def excB (K : Fg) (D : Addr) : Bool :=
  decide (PySem.W.findIn K (.ref D) "__getattribute__" = some (some (.builtin "BaseException.__getattribute__"))) && (decide (PySem.W.findIn K (.ref D) "__getattr__" = some none) && (decide (PySem.W.subIn K (.ref D) (.type "BaseException") = some true) && (PySem.W.hasDictIn K D &&
  (decide (PySem.W.findIn K (.ref D) "__class__" = some (some (.builtin "object.__class__"))) && (decide (PySem.W.specialIn K (.builtin "object.__class__") "__get__" = some (some (.builtin "getset_descriptor.__get__"))) && (decide (PySem.W.takesIn K (.builtin "object.__class__") = some true) && decide (PySem.W.mroIn K D (.type "object") = some true)))))))
theorem excB_ok {K : Fg} {D : Addr} (h : excB K D = true) : ExcC K D := by
  unfold excB at h
  simp only [Bool.and_eq_true, decide_eq_true_eq] at h
  obtain ⟨h1, h2, h3, h4, h5, h6, h7, h8⟩ := h
  exact ⟨h1, h2, h3, h4, h5, h6, h7, h8⟩
/-- T: the class that is caught -/
def kindB (kt : Kt) (T : Str) (K : Fg) : Bool := kt.all fun p => excB K (He.ga K p.1) && ((kt.all fun q => decide (PySem.W.kitOne K (.ref (He.ga K p.1)) (.ref (He.ga K q.1)) = some (p.1 == q.1))) &&
  (decide (PySem.W.kitOne K (.ref (He.ga K p.1)) (.type "ValueError") = some true) && decide (PySem.W.exmOne K (.ref (He.ga K p.1)) (.ref (He.ga K T)) = some true)))
theorem kindB_ok {kt : Kt} {T : Str} {K : Fg} {mg : MG} (h : kindB kt T K = true) (g : ∀ p ∈ kt, mg p.1 = some (.ref (He.ga K p.1))) : KindK K mg kt ∧ ∀ p ∈ kt, PySem.W.exmOne K (.ref (He.ga K p.1)) (.ref (He.ga K T)) = some true := by
  unfold kindB at h
  have key := List.all_eq_true.mp h
  have k2 : ∀ p ∈ kt, excB K (He.ga K p.1) = true ∧ (∀ q ∈ kt, PySem.W.kitOne K (.ref (He.ga K p.1)) (.ref (He.ga K q.1)) = some (p.1 == q.1)) ∧ PySem.W.kitOne K (.ref (He.ga K p.1)) (.type "ValueError") = some true ∧ PySem.W.exmOne K (.ref (He.ga K p.1)) (.ref (He.ga K T)) = some true := fun p hp => by
    have h1 := key p hp
    rw [Bool.and_eq_true, Bool.and_eq_true, Bool.and_eq_true] at h1
    obtain ⟨a, b, c, d⟩ := h1
    exact ⟨a, fun q hq => of_decide_eq_true (List.all_eq_true.mp b q hq), of_decide_eq_true c, of_decide_eq_true d⟩
  exact ⟨⟨g, fun p hp => excB_ok (k2 p hp).1, fun p hp q hq => (k2 p hp).2.1 q hq, fun p hp => (k2 p hp).2.2.1⟩, fun p hp => (k2 p hp).2.2.2⟩
end DH

/-! DX -/
/-! DX: xs.index(e). -/
namespace DL
open PySem PySem.Spec PyProof.Rows L2
def indexD (ds : List D) (d : D) : Option D := if eqOk (.list ds) d = true then (ds.findIdx? fun z => PyData.eqv z d).map fun j => .int (j : Nat) else none
def isLst : D → Bool
  | .list _ => true
  | _ => false
def lstOf : D → List D
  | .list ds => ds
  | _ => []
def indexF (fa fb : EF) : EF := fun ρ => (fa ρ).bind fun x ρ1 => if (x.get ρ1).any isLst = true then (fb ρ1).bind fun y ρ2 => opt ((x.get ρ2).bind fun d => (y.get ρ2).bind fun e => (if isLst d = true then indexD (lstOf d) e else none).map Vl.st) ρ2 else .bad
theorem isLst_of {d : D} (h : isLst d = true) : ∃ ds, d = .list ds := by
  cases d <;> first | exact ⟨_, rfl⟩ | cases h
theorem pd_index {X : Cx} {B : Bs} {W : WX} {c : Expr} {fa fb : EF} (h : PE X c (tBM X.K "list" (rIndexD X.K) (tD X.K X.mg B W fa) (tCons (tD X.K X.mg B W fb) tNil))) : PD X B W c (indexF fa fb) := PE.imp h fun σ H Q ⟨Hs, ρ, sl, q⟩ => by
  refine ⟨Hs, ρ, sl, OP.imp (OP.bind q) fun x ρ1 Hs1 H1 _ sl1 e1 q1 v hv => ?_⟩
  cases ex : x.get ρ1 with
  | none => rw [ex] at q1; exact q1.elim
  | some d =>
    rw [ex] at q1
    cases hl : isLst d with
    | false =>
      rw [if_neg (show ¬ (Option.any isLst (some d) = true) by show ¬ (isLst d = true); rw [hl]; decide)] at q1
      exact q1.elim
    | true =>
      rw [if_pos (show Option.any isLst (some d) = true from hl)] at q1
      obtain ⟨ds, rfl⟩ := isLst_of hl
      obtain ⟨p, vs, rfl, h1, _⟩ := (sl1.look hv ex).lst sl1.sub
      refine ⟨.inl ⟨rfl, vs, .inl (.inl h1)⟩, Hs1, ρ1, sl1, OP.imp (OP.bind q1) fun y ρ2 Hs2 H2 _ sl2 e2 q2 u hu => ?_⟩
      cases ex2 : x.get ρ2 with
      | none => rw [ex2] at q2; exact q2.elim
      | some d2 =>
        rw [ex2, Option.bind_some] at q2
        cases ey : y.get ρ2 with
        | none => rw [ey] at q2; exact q2.elim
        | some e =>
          rw [ey, Option.bind_some] at q2
          cases hl2 : isLst d2 with
          | false => rw [hl2, if_neg (by decide)] at q2; exact q2.elim
          | true =>
            rw [hl2, if_pos rfl] at q2
            obtain ⟨es, rfl⟩ := isLst_of hl2
            have s1 := (sl2.look (VlOk.mono hv e2) ex2).rep sl2.sub
            have s2 := (sl2.look hu ey).rep sl2.sub
            unfold indexD lstOf at q2
            by_cases c : eqOk (.list es) e = true
            · rw [if_pos c] at q2
              cases ej : es.findIdx? fun z => PyData.eqv z e with
              | none => rw [ej] at q2; exact q2.elim
              | some j =>
                rw [ej] at q2
                obtain ⟨hj, g1, g2⟩ := List.findIdx?_eq_some_iff_getElem.mp ej
                obtain ⟨p1, p2, z1, z2⟩ := eq_ok c
                refine ⟨p, u, e, es, j, es[j], rfl, rfl, s1.dp p1, s2.dp p2, z1, z2, List.getElem?_eq_getElem hj, g1, fun m z' hm hz => ?_, q2 Hs2 H2 sl2 (.refl _) _ (.int _)⟩
                have hm2 : m < es.length := by omega
                rw [List.getElem?_eq_getElem hm2] at hz
                cases hz
                have := g2 m hm
                cases q : PyData.eqv es[m] e with
                | false => rfl
                | true => exact absurd q this
            · rw [if_neg c] at q2; exact q2.elim
end DL

/-! DSQ -/
/-! DSQ: sorted of a list of pairs, of a list of pairs of pairs. -/
namespace DL
open PySem PySem.Spec PyProof.Rows L2

section
variable {α β : Type} {lt : α → α → Bool}
def insB (lt : α → α → Bool) (x : α) : List α → List α
  | [] => [x]
  | y :: ys => if lt y x = true then y :: insB lt x ys else x :: y :: ys
def sortB (lt : α → α → Bool) : List α → List α
  | [] => []
  | x :: xs => insB lt x (sortB lt xs)
theorem insB_stb (O : SrtO.Swo lt) (x : α) : ∀ l : List α, SrtO.Stb lt (insB lt x l) (x :: l)
  | [] => .refl _
  | y :: ys => by
    unfold insB
    split
    · rename_i h
      have a : SrtO.Stb lt ([y] ++ insB lt x ys) ([y] ++ (x :: ys)) := (SrtO.Stb.refl [y]).app (insB_stb O x ys)
      have b : SrtO.Stb lt (([y] ++ [x]) ++ ys) (([x] ++ [y]) ++ ys) := (SrtO.Stb.swap O fun a ha b hb => by
        rw [List.mem_singleton.mp ha, List.mem_singleton.mp hb]; exact h).app (SrtO.Stb.refl ys)
      exact a.trans b
    · exact .refl _
theorem sortB_stb (O : SrtO.Swo lt) : ∀ l : List α, SrtO.Stb lt (sortB lt l) l
  | [] => .refl _
  | x :: xs => (insB_stb O x _).trans ((SrtO.Stb.refl [x]).app (sortB_stb O xs))
theorem insB_srtd (O : SrtO.Swo lt) (x : α) : ∀ {l : List α}, SrtO.Srtd lt l → SrtO.Srtd lt (insB lt x l)
  | [], _ => SrtO.srtd_one x
  | y :: ys, h => by
    unfold insB
    have h2 := List.pairwise_cons.mp h
    split
    · rename_i q
      refine List.pairwise_cons.mpr ⟨fun z m => ?_, insB_srtd O x h2.2⟩
      rcases List.mem_cons.mp ((insB_stb O x ys).perm.mem_iff.mp m) with rfl | m
      · exact O.asym _ _ q
      · exact h2.1 z m
    · rename_i q
      have q : lt y x = false := by cases e : lt y x <;> simp_all
      refine List.pairwise_cons.mpr ⟨fun z m => ?_, h⟩
      rcases List.mem_cons.mp m with rfl | m
      · exact q
      · exact O.tr _ _ _ q (h2.1 z m)
theorem sortB_srtd (O : SrtO.Swo lt) : ∀ l : List α, SrtO.Srtd lt (sortB lt l)
  | [] => .nil
  | x :: xs => insB_srtd O x (sortB_srtd O xs)
theorem insB_map {lt : β → β → Bool} (f : α → β) (x : α) : ∀ l : List α, (insB (fun a b => lt (f a) (f b)) x l).map f = insB lt (f x) (l.map f)
  | [] => rfl
  | y :: ys => by
    rw [List.map_cons]
    unfold insB
    by_cases h : lt (f y) (f x) = true
    · rw [if_pos h, if_pos h, List.map_cons, insB_map f x ys]
    · rw [if_neg h, if_neg h]; rfl
theorem sortB_map {lt : β → β → Bool} (f : α → β) : ∀ l : List α, (sortB (fun a b => lt (f a) (f b)) l).map f = sortB lt (l.map f)
  | [] => rfl
  | x :: xs => by
    unfold sortB
    rw [insB_map, sortB_map f xs, List.map_cons] <;> rfl
/-- what is sorted already -/
theorem sortB_id : ∀ {l : List α}, SrtO.Srtd lt l → sortB lt l = l
  | [], _ => rfl
  | x :: xs, h => by
    obtain ⟨h1, h2⟩ := List.pairwise_cons.mp h
    unfold sortB
    rw [sortB_id h2]
    match xs, h1 with
    | [], _ => rfl
    | y :: ys, h1 => exact if_neg (by rw [h1 y List.mem_cons_self]; decide)
end
/-! ### pairs of pairs -/
abbrev Qd := Pr × Pr
def ltQ (a b : Qd) : Bool := if a.1 = b.1 then SrtO.lexB a.2 b.2 else SrtO.lexB a.1 b.1
theorem ltQ_iff {a b : Qd} : ltQ a b = true ↔ a.1.1 < b.1.1 ∨ (a.1.1 = b.1.1 ∧ (a.1.2 < b.1.2 ∨ (a.1.2 = b.1.2 ∧ (a.2.1 < b.2.1 ∨ (a.2.1 = b.2.1 ∧ a.2.2 < b.2.2))))) := by
  unfold ltQ
  by_cases h : a.1 = b.1
  · rw [if_pos h, SrtO.lexB_iff, h]; omega
  · rw [if_neg h, SrtO.lexB_iff]
    have : ¬ (a.1.1 = b.1.1 ∧ a.1.2 = b.1.2) := fun ⟨x, y⟩ => h (Prod.ext x y)
    omega
theorem ltQ_no {a b : Qd} : ltQ a b = false ↔ ¬ (a.1.1 < b.1.1 ∨ (a.1.1 = b.1.1 ∧ (a.1.2 < b.1.2 ∨ (a.1.2 = b.1.2 ∧ (a.2.1 < b.2.1 ∨ (a.2.1 = b.2.1 ∧ a.2.2 < b.2.2)))))) := by
  rw [← ltQ_iff]
  cases ltQ a b <;> simp
theorem swo_ltQ {α : Type} (k : α → Qd) : SrtO.Swo fun v u => ltQ (k v) (k u) := by
  refine ⟨fun x y h => ?_, fun x y z h1 h2 => ?_⟩
  · have a := ltQ_iff.mp h
    refine ltQ_no.mpr ?_
    omega
  · have a := ltQ_no.mp h1
    have b := ltQ_no.mp h2
    refine ltQ_no.mpr ?_
    omega
def IsQuad (h : Heap) (v : Value) (q : Qd) : Prop := ∃ a o b c n, v = .ref a ∧ h.get? a = some o ∧ o.cls = .type "tuple" ∧ o.data = .seq #[b, c] n ∧ Srt.IsPair h b q.1.1 q.1.2 ∧ Srt.IsPair h c q.2.1 q.2.2
theorem IsQuad.keeps {h h' : Heap} {v : Value} {q : Qd} (p : IsQuad h v q) (k : ∀ b o, h.get? b = some o → o.cls = .type "tuple" → h'.get? b = some o) : IsQuad h' v q := by
  obtain ⟨a, o, b, c, n, e, ho, hc, hd, p1, p2⟩ := p
  exact ⟨a, o, b, c, n, e, k _ _ ho hc, hc, hd, p1.keeps k, p2.keeps k⟩
section
variable {prog : Program} {w : World} {A : Around} {s : Shared} {E : Value → Shared → Prop}
theorem isTuple_of {a : Addr} {o : Obj} {xs : Array Value} {n : Nat} (ho : s.heap.get? a = some o) (hc : o.cls = .type "tuple") (hd : o.data = .seq xs n) : s.heap.IsTuple a xs := ⟨o, ho, hc, n, hd⟩
theorem pair_eqB {v u : Value} {p q : Pr} (hu : A.units < cLine) (h1 : Srt.IsPair s.heap v p.1 p.2) (h2 : Srt.IsPair s.heap u q.1 q.2) : SeqAt.EqAt A s v u (decide (p = q)) := by
  obtain ⟨a, o, t1, t2, n, rfl, ho, hc, hd⟩ := h1
  obtain ⟨b, o', u1, u2, m, rfl, ho', hc', hd'⟩ := h2
  by_cases hab : a = b
  · subst hab
    rw [ho] at ho'
    cases ho'
    rw [hd] at hd'
    injection hd' with e1 e2
    have e3 := congrArg Array.toList e1
    simp only [List.cons.injEq, Value.int.injEq] at e3
    have : p = q := Prod.ext e3.1.1 e3.2.1.1
    rw [decide_eq_true this]
    exact SeqAt.EqAt.same _
  · have r := SeqAt.EqAt.of_refs hab (SeqAt.RcAt.tuples (e := fun j => if j = 0 then p.1 == q.1 else p.2 == q.2) (isTuple_of ho hc hd) (isTuple_of ho' hc' hd') hu fun j j1 j2 => by
      match j, j1 with
      | 0, _ => exact SeqAt.EqAt.int_int p.1 t1 q.1 u1
      | 1, _ => exact SeqAt.EqAt.int_int p.2 t2 q.2 u2
      | j + 2, j1 => exact absurd j1 (by simp))
    have e : ((List.range (min (#[Value.int p.1 t1, Value.int p.2 t2] : Array Value).size (#[Value.int q.1 u1, Value.int q.2 u2] : Array Value).size)).all (fun j => if j = 0 then p.1 == q.1 else p.2 == q.2) && (#[Value.int p.1 t1, Value.int p.2 t2] : Array Value).size == (#[Value.int q.1 u1, Value.int q.2 u2] : Array Value).size) = decide (p = q) := by
      show ((p.1 == q.1 && (p.2 == q.2 && true)) && true) = decide (p = q)
      rw [Bool.and_true, Bool.and_true]
      obtain ⟨p1, p2⟩ := p
      obtain ⟨q1, q2⟩ := q
      simp only [Prod.mk.injEq]
      by_cases h1 : p1 = q1 <;> by_cases h2 : p2 = q2 <;> simp [h1, h2]
    rw [e] at r
    exact r
theorem lexLt2 (p q : Pr) : HT.lexLt [p.1, p.2] [q.1, q.2] = SrtO.lexB p q := by
  obtain ⟨a, b⟩ := p
  obtain ⟨c, d⟩ := q
  unfold SrtO.lexB
  by_cases h : a = c
  · subst h
    by_cases h2 : b = d
    · subst h2; simp [HT.lexLt]
    · simp [HT.lexLt, h2]
  · simp [HT.lexLt, h]
theorem pair_lt {v u : Value} {p q : Pr} {Q : Value → Shared → Prop} (hu : A.units < cLine) (h1 : Srt.IsPair s.heap v p.1 p.2) (h2 : Srt.IsPair s.heap u q.1 q.2) (h : Q (.bool (SrtO.lexB p q)) s) : wpAny (model prog w) A (compareOp .Lt v u) Q E s := by
  obtain ⟨a, o, t1, t2, n, rfl, ho, hc, hd⟩ := h1
  obtain ⟨b, o', u1, u2, m, rfl, ho', hc', hd'⟩ := h2
  refine HT.lt_tupInts (isTuple_of ho hc hd) (isTuple_of ho' hc' hd') (ns := [p.1, p.2]) (ms := [q.1, q.2]) (.cons _ _ (.cons _ _ .nil)) (.cons _ _ (.cons _ _ .nil)) hu ?_
  rw [lexLt2]
  exact h
theorem quad_cmp {vs : List Value} {k : Value → Qd} (hu : A.units < cLine) (hp : ∀ v ∈ vs, IsQuad s.heap v (k v)) : SrtO.Cmp prog w A s (tuples' false) (fun p => p.1 ∈ vs) (SrtO.lt2 fun v u => ltQ (k v) (k u)) := by
  intro p q hm hm'
  have h1 := hp _ hm
  have h2 := hp _ hm'
  show wpAny (model prog w) A (keyLt' (tuples' false) p.1 q.1) (fun r s' => s' = s ∧ r = ltQ (k p.1) (k q.1)) (fun _ _ => False) s
  generalize k p.1 = x at h1 ⊢
  generalize k q.1 = y at h2 ⊢
  obtain ⟨a, o, b, c, n, e, ho, hc, hd, p1, p2⟩ := h1
  obtain ⟨a', o', b', c', n', e', ho', hc', hd', q1, q2⟩ := h2
  rw [e, e']
  refine PySem.W.kat_lt ho hd ho' hd' ?_
  show PySem.W.KatLex prog w A false (decide (2 < 2)) _ [(b, b'), (c, c')] 0 s
  refine PySem.W.kat_cons (pair_eqB hu p1 q1 prog w _ _ ?_)
  refine PySem.W.kat_go (fun e1 => ?_) (fun e1 => ?_)
  · have ex : x.1 = y.1 := of_decide_eq_true e1
    refine PySem.W.kat_yes (PySem.W.kat_cons (pair_eqB hu p2 q2 prog w _ _ ?_))
    refine PySem.W.kat_go (fun e2 => ?_) (fun e2 => ?_)
    · have ey : x.2 = y.2 := of_decide_eq_true e2
      refine PySem.W.kat_yes (PySem.W.kat_nil ⟨rfl, ?_⟩)
      rw [Prod.ext ex ey]
      exact ((swo_ltQ (fun v : Qd => v)).refl y).symm
    · refine PySem.W.kat_no (PySem.W.kat_one _ _ (pair_lt hu p2 q2 ?_))
      exact (show s = s ∧ SrtO.lexB x.2 y.2 = ltQ x y from ⟨rfl, by unfold ltQ; rw [if_pos ex]⟩)
  · have ex : ¬ x.1 = y.1 := of_decide_eq_false e1
    refine PySem.W.kat_no (PySem.W.kat_one _ _ (pair_lt hu p1 q1 ?_))
    exact (show s = s ∧ SrtO.lexB x.1 y.1 = ltQ x y from ⟨rfl, by unfold ltQ; rw [if_neg ex]⟩)
theorem firstsQ : ∀ {vs : List Value} {k : Value → Qd} {h : Heap}, (∀ v ∈ vs, IsQuad h v (k v)) → ∃ fs, PySem.W.KatTups h vs fs ∧ fs.length = vs.length ∧ ∀ f ∈ fs, ∃ p : Pr, Srt.IsPair h f p.1 p.2
  | [], _, _, _ => ⟨[], .nil, rfl, fun _ m => absurd m (by simp)⟩
  | v :: vs, k, h, hp => by
    obtain ⟨fs, h1, h2, h3⟩ := firstsQ (vs := vs) (k := k) (h := h) fun u m => hp u (List.mem_cons_of_mem _ m)
    obtain ⟨a, o, b, c, n, e, ho, hc, hd, p1, p2⟩ := hp v List.mem_cons_self
    refine ⟨b :: fs, ?_, by rw [List.length_cons, List.length_cons, h2], fun f m => ?_⟩
    · rw [e]; exact .cons ho hc hd rfl h1
    · rcases List.mem_cons.mp m with rfl | m
      · exact ⟨_, p1⟩
      · exact h3 f m
theorem quads_sortableO {a : Addr} {vs : List Value} {k : Value → Qd} (hu : A.units < cLine) (h0 : 0 < vs.length) (hp : ∀ v ∈ vs, IsQuad s.heap v (k v)) (ha : ∀ o, s.heap.get? a = some o → o.cls ≠ .type "tuple") : SrtO.SortableO prog w A s a vs fun v u => ltQ (k v) (k u) := by
  intro h' keep
  have hp' : ∀ v ∈ vs, IsQuad h' v (k v) := fun v hm => (hp v hm).keeps fun b o e c => keep b o (fun z => by subst z; exact ha o e c) e
  obtain ⟨fs, h1, h2, h3⟩ := firstsQ hp'
  refine ⟨tuples' false, fun Q E hq => ?_, quad_cmp (s := { s with heap := h' }) hu hp'⟩
  refine PySem.W.kat_kind (T := .type "tuple") h1 (by omega) (fun f hm => ?_) (by rfl) ?_
  · obtain ⟨p, b, o, t1, t2, n, rfl, ho, hc, hd⟩ := h3 f hm
    rw [← hc]
    exact (PySem.W.Looks.ld ho).andThen .now
  · have e : (Value.type "tuple" != Value.type "tuple") = false := by first | decide +kernel | rfl | decide
    rw [e]
    exact hq
theorem sorted_quads {l : Addr} {vs : List Value} {k : Value → Qd} {Q : Value → Shared → Prop} (hu : A.units + 2 < cLine) (hl : s.heap.IsList l vs.toArray) (hz : vs.length ≤ sizeLine) (hp : ∀ v ∈ vs, IsQuad s.heap v (k v))
    (h : ∀ (h' : Heap) (d : Addr), (∀ b o, s.heap.get? b = some o → h'.get? b = some o) → s.heap.objs.size ≤ d → (∃ n, h'.get? d = some (seqObj "list" (sortB (fun v u => ltQ (k v) (k u)) vs).toArray n)) → Q (.ref d) { s with heap := h' }) :
    wpAny (model prog w) A (call (.builtin "sorted") [.ref l]) Q E s := by
  refine SrtO.sorted_ord (swo_ltQ k) hl hz (fun h2 h₁ a ha kk => ?_) fun out hs hb => ?_
  · refine quads_sortableO (s := { s with heap := h₁ }) (by show A.units + 1 + 1 < cLine; omega) (by omega) (fun v hm => (hp v hm).keeps fun b o e _ => (kk b o e).2) fun o e => ?_
    have e' : some o = some (seqObj "list" vs.toArray 0) := e.symm.trans ha
    cases e'
    intro c
    exact absurd (Value.type.inj c) (by decide)
  · have : out = sortB (fun v u => ltQ (k v) (k u)) vs := SrtO.stb_uniq (swo_ltQ k) hs (sortB_srtd (swo_ltQ k) vs) (hb.trans ⟨(sortB_stb (swo_ltQ k) vs).perm.symm, fun x => ((sortB_stb (swo_ltQ k) vs).cls x).symm⟩)
    rw [this]
    exact h _ _ (fun b o e => sortedAll_old e) (Nat.le_succ _) (sortedAll_at s.heap vs _)
end
end DL

/-! DY -/
/-! DY: sorted of lists of ints, pairs, pairs of pairs; trees lent to a def; recv.reverse(). -/
namespace DL
open PySem PySem.Spec PyProof.Rows L2

/-! ### sorted(xs) of pairs, of pairs of pairs, as data -/
def prOf : D → Option Pr
  | .tuple [.int i, .int j] => some (i, j)
  | _ => none
theorem prOf_eq {d : D} {p : Pr} (h : prOf d = some p) : d = sqP p := by
  unfold prOf at h
  split at h
  · cases h; rfl
  · cases h
def prL : List D → Option (List Pr)
  | [] => some []
  | d :: ds => (prOf d).bind fun p => (prL ds).map (p :: ·)
def qdOf : D → Option Qd
  | .tuple [a, b] => (prOf a).bind fun p => (prOf b).map fun q => (p, q)
  | _ => none
def sqQ (q : Qd) : D := .tuple [sqP q.1, sqP q.2]
theorem qdOf_eq {d : D} {q : Qd} (h : qdOf d = some q) : d = sqQ q := by
  unfold qdOf at h
  split at h
  · rename_i a b
    cases ea : prOf a with
    | none => rw [ea] at h; cases h
    | some p =>
      cases eb : prOf b with
      | none => rw [ea, eb] at h; cases h
      | some p2 =>
        rw [ea, eb] at h
        cases h
        rw [prOf_eq ea, prOf_eq eb]
        rfl
  · cases h
def qdL : List D → Option (List Qd)
  | [] => some []
  | d :: ds => (qdOf d).bind fun p => (qdL ds).map (p :: ·)
theorem prL_eq : ∀ {ds : List D} {ps : List Pr}, prL ds = some ps → ds = ps.map sqP
  | [], _, h => by cases h; rfl
  | d :: ds, ps, h => by
    unfold prL at h
    cases e : prOf d with
    | none => rw [e] at h; cases h
    | some p =>
      cases e2 : prL ds with
      | none => rw [e, e2] at h; cases h
      | some r =>
        rw [e, e2] at h
        cases h
        rw [List.map_cons, ← prL_eq e2, prOf_eq e]
theorem qdL_eq : ∀ {ds : List D} {ps : List Qd}, qdL ds = some ps → ds = ps.map sqQ
  | [], _, h => by cases h; rfl
  | d :: ds, ps, h => by
    unfold qdL at h
    cases e : qdOf d with
    | none => rw [e] at h; cases h
    | some p =>
      cases e2 : qdL ds with
      | none => rw [e, e2] at h; cases h
      | some r =>
        rw [e, e2] at h
        cases h
        rw [List.map_cons, ← qdL_eq e2, qdOf_eq e]
/-- ints, pairs of ints, pairs of those -/
def sortAD : D → Option D
  | .list ds => match intsOf ds with
    | some ns => some (.list ((isort ns).map PyData.int))
    | none => match prL ds with
      | some ps => some (.list ((sortB SrtO.lexB ps).map sqP))
      | none => (qdL ds).map fun qs => .list ((sortB ltQ qs).map sqQ)
  | _ => none
def prV (H : Hp) : V → Pr
  | .ref b => match H b with
    | some (.tup [.int i, .int j]) => (i, j)
    | _ => (0, 0)
  | _ => (0, 0)
def qdV (H : Hp) : V → Qd
  | .ref b => match H b with
    | some (.tup [a, b]) => (prV H a, prV H b)
    | _ => ((0, 0), (0, 0))
  | _ => ((0, 0), (0, 0))
section
variable {K : Fg} {Hs H : Hp}
theorem rep_sqP {v : V} {p : Pr} (r : Rep K Hs v (sqP p)) : ∃ t, v = .ref t ∧ Hs t = some (.tup [.int p.1, .int p.2]) := by
  unfold sqP at r
  cases r with
  | tup h a =>
    cases a with
    | cons r1 a =>
      cases a with
      | cons r2 a =>
        cases a
        cases r1
        cases r2
        exact ⟨_, rfl, h⟩
theorem prV_eq {v : V} {p : Pr} (r : Rep K Hs v (sqP p)) : prV Hs v = p := by
  obtain ⟨t, rfl, h⟩ := rep_sqP r
  unfold prV
  dsimp only
  rw [h]
theorem rep_sqQ {v : V} {q : Qd} (r : Rep K Hs v (sqQ q)) : ∃ t a b, v = .ref t ∧ Hs t = some (.tup [a, b]) ∧ Rep K Hs a (sqP q.1) ∧ Rep K Hs b (sqP q.2) := by
  unfold sqQ at r
  cases r with
  | tup h a =>
    cases a with
    | cons r1 a =>
      cases a with
      | cons r2 a =>
        cases a
        exact ⟨_, _, _, rfl, h, r1, r2⟩
theorem qdV_eq {v : V} {q : Qd} (r : Rep K Hs v (sqQ q)) : qdV Hs v = q := by
  obtain ⟨t, a, b, rfl, h, r1, r2⟩ := rep_sqQ r
  unfold qdV
  dsimp only
  rw [h]
  dsimp only
  rw [prV_eq r1, prV_eq r2]
theorem RepA.keyed {α : Type} {f : α → D} {k : V → α} (hk : ∀ v p, Rep K Hs v (f p) → k v = p) : ∀ {vs : List V} {ps : List α}, RepA K Hs vs (ps.map f) → vs.map k = ps ∧ ∀ v ∈ vs, Rep K Hs v (f (k v))
  | _, [], .nil => ⟨rfl, fun _ m => absurd m (by simp)⟩
  | _, p :: ps, .cons (v := v) (vs := vs) a b => by
    obtain ⟨h1, h2⟩ := RepA.keyed hk b
    refine ⟨by rw [List.map_cons, h1, hk _ _ a], fun u m => ?_⟩
    rcases List.mem_cons.mp m with rfl | m
    · rw [hk _ _ a]; exact a
    · exact h2 u m
theorem RepA.of_all {α : Type} {f : α → D} {k : V → α} : ∀ {vs : List V}, (∀ v ∈ vs, Rep K Hs v (f (k v))) → RepA K Hs vs ((vs.map k).map f)
  | [], _ => .nil
  | v :: vs, h => .cons (h v List.mem_cons_self) (RepA.of_all fun u m => h u (List.mem_cons_of_mem _ m))
end
/-- sorted(xs), xs a list of pairs of pairs -/
def rSortedQ (K : Fg) : List V → Hp → VK → Prop := fun vs H Q => ∃ (a : Addr) (xs : List V) (k : V → Qd), vs = [V.ref a] ∧ SqL K H a xs ∧ (∀ x ∈ xs, ∃ t b c, x = V.ref t ∧ H t = some (.tup [.ref b, .ref c]) ∧ H b = some (.tup [.int (k x).1.1, .int (k x).1.2]) ∧ H c = some (.tup [.int (k x).2.1, .int (k x).2.2])) ∧
  ∀ p, H p = none → Q (.ref p) (upd H p (.lst (sortB (fun v u => ltQ (k v) (k u)) xs)))
theorem pair_of {X : Cx} {pins : List (Addr × Obj)} {σ : L2.St} {H : Hp} {s : Shared} (I : L2.Inv X pins σ H s) {b : Addr} {i j : Int} (h : H b = some (.tup [.int i, .int j])) : Srt.IsPair s.heap (.ref b) i j := by
  obtain ⟨_, its2, r2, o, ho, hc, n, hd⟩ := I.hok _ _ h
  obtain ⟨u1, u2, rfl, ri, rj⟩ := vals2 r2
  obtain ⟨t1, rfl⟩ := ri
  obtain ⟨t2, rfl⟩ := rj
  exact ⟨b, o, t1, t2, n, rfl, ho, hc, hd⟩
theorem cr_sortedQ {X : Cx} (hu : X.A.units + 2 < cLine) : CallR X (.builtin "sorted") (rSortedQ X.K) := by
  intro pins s σ H vs us Q I r h
  obtain ⟨a, xs, k, rfl, hs, hx, q⟩ := h
  obtain ⟨its, rv, hl, hz⟩ := I.list hs
  obtain ⟨u, rfl, ru⟩ := vals1 r
  obtain rfl : u = Value.ref a := ru
  obtain ⟨e1, e2⟩ := refs_back rv fun x m => by
    obtain ⟨t, _, _, e, _⟩ := hx x m
    exact ⟨t, e⟩
  refine sorted_quads (k := fun u => k (backV u)) hu hl.isList (by rw [← rv.length]; exact hz) (fun v hv => ?_) fun h' d kp hd hn => ?_
  · obtain ⟨t, rfl⟩ := e2 v hv
    have hm : V.ref t ∈ xs := by rw [e1]; exact List.mem_map.mpr ⟨_, hv, rfl⟩
    obtain ⟨t', b, c, e, ht, hb, hc'⟩ := hx _ hm
    cases e
    obtain ⟨_, its2, r2, o, ho, hc, n, hd⟩ := I.hok _ _ ht
    obtain ⟨u1, u2, rfl, ri, rj⟩ := vals2 r2
    cases ri
    cases rj
    exact ⟨t, o, .ref b, .ref c, n, rfl, ho, hc, hd, pair_of I hb, pair_of I hc'⟩
  · obtain ⟨n, hn⟩ := hn
    have ei : (sortB (fun v u => ltQ (k (backV v)) (k (backV u))) its).map backV = sortB (fun v u => ltQ (k v) (k u)) xs := by
      rw [e1]
      exact sortB_map (lt := fun v u => ltQ (k v) (k u)) backV its
    have h3 : ∀ u ∈ sortB (fun v u => ltQ (k (backV v)) (k (backV u))) its, ∃ a, u = Value.ref a := fun u hu => e2 u ((sortB_stb (swo_ltQ fun v => k (backV v)) its).perm.mem_iff.mp hu)
    have lz : (sortB (fun v u => ltQ (k v) (k u)) xs).length ≤ sizeLine := by rw [(sortB_stb (swo_ltQ k) xs).perm.length_eq]; exact hz
    rw [← ei] at lz
    refine ⟨.ref d, upd H d (.lst ((sortB (fun v u => ltQ (k (backV v)) (k (backV u))) its).map backV)), I.laid (t' := s.toks) kp hd ⟨lz, _, n, vals_back h3, hn⟩, rfl, ?_⟩
    rw [ei]
    exact q d (I.hok.fresh hd)
theorem cx_sortA {X : Cx} (hu : X.A.units + 2 < cLine) : CallR X (.builtin "sorted") (rXcn X.K (one sortAD)) := fun pins s σ H vs us Q I r h => by
  obtain ⟨Hs, ds, z, sm, rs, l, eg, q⟩ := h
  match ds, l, eg with
  | [d], l, eg =>
    match vs, l, rs, r with
    | [v], _, rs, r =>
      have sh := rs 0 v d rfl rfl
      have eg : sortAD d = some z := eg
      obtain ⟨ds, rfl⟩ : ∃ ds, d = .list ds := by cases d with
        | list ds => exact ⟨ds, rfl⟩
        | _ => cases eg
      unfold sortAD at eg
      dsimp only at eg
      cases ei : intsOf ds with
      | some ns =>
        rw [ei] at eg
        exact cx_sortI pins s σ H _ us Q I r ⟨Hs, [.list ds], z, sm, rs, rfl, by show (intsOf ds).map _ = some z; rw [ei]; exact eg, q⟩
      | none =>
        rw [ei] at eg
        dsimp only at eg
        obtain ⟨p, ws, rfl, e, ra⟩ := sh.lst sm
        cases ep : prL ds with
        | some ps =>
          rw [ep] at eg
          cases eg
          have ed := prL_eq ep
          subst ed
          obtain ⟨k1, k2⟩ := RepA.keyed (k := prV Hs) (fun v p r => prV_eq r) ra
          refine cr_sortedPO pins s σ H _ us Q I r ⟨p, ws, prV Hs, rfl, .inl (.inl e), fun x m => ?_, fun ys a so st na => ?_⟩
          · obtain ⟨t, rfl, h⟩ := rep_sqP (k2 x m)
            exact ⟨t, rfl, sm _ _ h⟩
          · have ey : ys = sortB (ltP (prV Hs)) ws := SrtO.stb_uniq (ltP_swo _) so (sortB_srtd (ltP_swo _) ws) (st.trans ⟨(sortB_stb (ltP_swo _) ws).perm.symm, fun x => ((sortB_stb (ltP_swo (prV Hs)) ws).cls x).symm⟩)
            refine q a _ na (Grow.loose sm na) ⟨_, upd_same, ?_⟩
            rw [ey]
            have := RepA.of_all (f := sqP) (k := prV Hs) fun v m => k2 v ((sortB_stb (ltP_swo (prV Hs)) ws).perm.mem_iff.mp m)
            rw [sortB_map (lt := SrtO.lexB) (prV Hs) ws, k1] at this
            exact this
        | none =>
          rw [ep] at eg
          dsimp only at eg
          cases eq : qdL ds with
          | none => rw [eq] at eg; cases eg
          | some qs =>
            rw [eq] at eg
            cases eg
            have ed := qdL_eq eq
            subst ed
            obtain ⟨k1, k2⟩ := RepA.keyed (k := qdV Hs) (fun v p r => qdV_eq r) ra
            refine cr_sortedQ hu pins s σ H _ us Q I r ⟨p, ws, qdV Hs, rfl, .inl (.inl e), fun x m => ?_, fun a na => ?_⟩
            · obtain ⟨t, a, b, rfl, h, r1, r2⟩ := rep_sqQ (k2 x m)
              obtain ⟨ta, rfl, h1⟩ := rep_sqP r1
              obtain ⟨tb, rfl, h2⟩ := rep_sqP r2
              exact ⟨t, ta, tb, rfl, sm _ _ h, sm _ _ h1, sm _ _ h2⟩
            · refine q a _ na (Grow.loose sm na) ⟨_, upd_same, ?_⟩
              have := RepA.of_all (f := sqQ) (k := qdV Hs) fun v m => k2 v ((sortB_stb (swo_ltQ (qdV Hs)) ws).perm.mem_iff.mp m)
              rw [sortB_map (lt := ltQ) (qdV Hs) ws, k1] at this
              exact this

theorem hu2 {A : Around} {k : Nat} (hr : Room k A) : A.units + 2 < cLine := by have := hu65 hr; omega

/-! ### trees lent to a def, its answer flat -/
def Slot.getT : Slot → Option D
  | .tre d => some (strip (bx d))
  | .atr d => some (strip (bx d))
  | s => s.get
def Vl.getT (ρ : En) : Vl → Option D
  | .st d => some d
  | .at i => (ρ[i]?).bind Slot.getT
  | .fn _ => none
def argT : List Md → List Vl → En → Option (List D)
  | [], [], _ => some []
  | .p :: ms, x :: xs, ρ => (x.getT ρ).bind fun d => (argT ms xs ρ).map (d :: ·)
  | .f a :: ms, .fn b :: xs, ρ => if a = b then (argT ms xs ρ).map (.none :: ·) else none
  | _, _, _ => none
def callT (m : List Md) (F : List D → R) (dd : List D) (fa : AF) : EF := fun ρ => (fa ρ).bind fun xs ρ1 => match argT m (xs ++ dd.map Vl.st) ρ1 with
  | some ds => (match F ds with
    | .ok d _ _ => if flat d = true then .ok (.st d) ρ1 else .bad
    | .er e _ => if e.fs.isEmpty = true then .er e ρ1 else .bad
    | .bad => .bad)
  | none => .bad
section
variable {K : Fg} {mg : MG} {B : Bs} {W : WX} {σ : L2.St} {Hs H : Hp} {ρ : En}
theorem Sl.lookT (sl : Sl K B Hs H σ ρ) {v : V} {x : Vl} {d : D} (hv : VlOk K Hs σ v x) (h : x.getT ρ = some d) : Rep K H v d := by
  cases x with
  | st d' => exact (sl.look hv h).rep sl.sub
  | fn a => cases h
  | «at» i =>
    have h : (ρ[i]?).bind Slot.getT = some d := h
    cases es : ρ[i]? with
    | none => rw [es] at h; cases h
    | some s =>
      rw [es, Option.bind_some] at h
      have hv : σ[i]? = some (some v) := hv
      have base : s.get = some d → Rep K H v d := fun z => (sl.look (x := .at i) hv (by show (ρ[i]?).bind Slot.get = some d; rw [es, Option.bind_some]; exact z)).rep sl.sub
      cases s with
      | tre d' =>
        cases h
        obtain ⟨p, f, e, t, _⟩ := sl.ok i _ _ hv es
        cases e
        exact t.1.frozen sl.sub fun a _ o e => e
      | atr d' =>
        cases h
        obtain ⟨p, f, e, t, _⟩ := sl.ok i _ _ hv es
        cases e
        exact t.1.frozen sl.sub fun a _ o e => e
      | un => exact base h
      | val _ => exact base h
      | own _ => exact base h
      | arg _ => exact base h
      | fn _ => exact base h
      | gho _ _ => exact base h
      | tab _ => exact base h
theorem argT_ok (sl : Sl K B Hs H σ ρ) : ∀ {m : List Md} {vs : List V} {xs : List Vl} {ds : List D}, VlsOk K Hs σ vs xs → argT m xs ρ = some ds → ArgsOk K H m vs ds
  | [], _, [], _, .nil, h => by cases h; exact .nil
  | .p :: ms, _, x :: xs, _, .cons a b, h => by
    unfold argT at h
    cases ex : x.getT ρ with
    | none => rw [ex] at h; cases h
    | some d =>
      rw [ex, Option.bind_some] at h
      cases e : argT ms xs ρ with
      | none => rw [e] at h; cases h
      | some es =>
        rw [e] at h
        cases h
        exact .p (sl.lookT a ex) (argT_ok sl b e)
  | .f z :: ms, _, .fn y :: xs, _, .cons a b, h => by
    unfold argT at h
    by_cases c : z = y
    · rw [if_pos c] at h
      subst c
      cases e : argT ms xs ρ with
      | none => rw [e] at h; cases h
      | some es =>
        rw [e] at h
        cases h
        cases a
        exact .f (argT_ok sl b e)
    · rw [if_neg c] at h; cases h
  | [], _, _ :: _, _, .cons _ _, h => by cases h
  | .p :: ms, _, [], _, .nil, h => by cases h
  | .f _ :: ms, _, [], _, .nil, h => by cases h
  | .f _ :: ms, _, .at _ :: xs, _, .cons a b, h => by cases h
  | .f _ :: ms, _, .st _ :: xs, _, .cons a b, h => by cases h
end
section
variable {X : Cx} {B : Bs} {W : WX} {k : Nat} {f : Addr} {fd : FuncData} {ps : List Str} {m : List Md} {tails : List (List D)} {F : List D → R} {dvs : List V} {dd : List D} {ds : List Value} {x : Str} {p pos : Pos} {e : Expr} {es : List Expr} {fa : AF}
theorem pd_callT (G : FnOk X.prog X.w X.K X.mg X.base (L2N.CX X.prog X.w) k f fd ps (spD X.K X.mg m F)) (tk : L2N.Takes X W) (hr : Room k X.A) (hg : Gl X x) (hm : X.mg x = some (.ref f)) (hk : PySem.W.keepIn X.K (.ref f) = true) (hb : Binds X.K fd ps ds) (hd : Vals dvs ds) (hdd : ∀ H, RepA X.K H dvs dd)
    (ha : PAD X B W (e :: es) fa) (hdb : (x == ("__debug__" : Str)) = false := by decide) (he : starEach (e :: es) X.env = (false, eval e X.env) :: starEach es X.env := by rfl) (hpl : (backTo pos (starEach es X.env)).any (·.1) = false := by rfl) :
    PD X B W (.Call (.Name x p) (e :: es) [] pos) (callT m F dd fa) := PE.imp (pe_callSD (E := WE W) G hr hg hm hk hb hd (fun σ => L2N.passAt tk σ) ha hdb he hpl) fun σ H Q ⟨Hs, ρ, sl, q⟩ => by
  refine ⟨Hs, ρ, sl, OP.imp (OP.bind q) fun xs ρ1 Hs1 H1 _ sl1 e1 q1 vs hvs => ?_⟩
  cases ea : argT m (xs ++ dd.map Vl.st) ρ1 with
  | none => rw [ea] at q1; exact q1.elim
  | some es =>
    rw [ea] at q1
    refine ⟨H1, es, .refl _, argT_ok sl1 (hvs.app (hdd Hs1)) ea, ?_⟩
    dsimp only at q1
    have back : ∀ {Hs' H'}, Grow H1 H1 Hs' H' → Grow Hs1 H1 Hs1 H' := fun {Hs' H'} g => ⟨.refl _, g.h, sl1.sub.trans g.h, (Grow.refl sl1.sub).new⟩
    cases eF : F es with
    | bad => rw [eF] at q1; exact q1.elim
    | er z c =>
      rw [eF] at q1
      dsimp only at q1
      by_cases c : z.fs.isEmpty = true
      · rw [if_pos c] at q1
        exact fun cls od Hs' H' g eo => q1 cls od Hs1 H' (sl1.grow (back g)) (.refl _) (eo.plain c)
      · rw [if_neg c] at q1; exact q1.elim
    | ok d fr c =>
      rw [eF] at q1
      dsimp only at q1
      by_cases c : flat d = true
      · rw [if_pos c] at q1
        intro r Hs' H' g ro
        cases fr with
        | false => exact q1 Hs1 H' (sl1.grow (back g)) (.refl _) r (Rep.flat ro c)
        | true =>
          obtain ⟨pp, rfl, n, n0, cn⟩ := ro
          cases d <;> first | (cases c; done) | exact cn.elim
      · rw [if_neg c] at q1; exact q1.elim
theorem pd_clT (dd : List D) (G : DefOk X.prog X.w X.K X.mg X.base k x f ps tails (spD X.K X.mg m F)) (hdd : dd ∈ tails) (tk : L2N.Takes X W) (hr : Room k X.A) (hg : Gl X x)
    (ha : PAD X B W (e :: es) fa) (hdb : (x == ("__debug__" : Str)) = false := by decide) (he : starEach (e :: es) X.env = (false, eval e X.env) :: starEach es X.env := by rfl) (hpl : (backTo pos (starEach es X.env)).any (·.1) = false := by rfl) :
    PD X B W (.Call (.Name x p) (e :: es) [] pos) (callT m F dd fa) := by
  obtain ⟨fd, a, b, c, d⟩ := G.ex
  obtain ⟨dvs, ds, h1, h2, h3⟩ := d dd hdd
  exact pd_callT c tk hr hg a b h3 h1 h2 ha hdb he hpl
end

/-! ### recv.reverse() on a list within a tree -/
section
variable {K : Fg} {P : Pin} {Hs H : Hp}
theorem TreA.rev : ∀ {vs : List V} {ds : List D} {f : List Addr}, TreA K P Hs H vs ds f → ∃ f', TreA K P Hs H vs.reverse ds.reverse f' ∧ f'.Perm f
  | _, _, _, .nil => ⟨[], .nil, .refl _⟩
  | _, _, _, .cons (v := v) (vs := vs) (d := d) (ds := ds) (f := f) (g := g) a b => by
    obtain ⟨f', t, p⟩ := b.rev
    refine ⟨f' ++ f, ?_, ?_⟩
    · rw [List.reverse_cons, List.reverse_cons]
      exact t.snocT a
    · exact (p.append_right f).trans List.perm_append_comm
end
section
variable {X : Cx} {B : Bs} {W : WX} {pos : Pos} {i : Nat} {g : En → Option (List Nat)}
def revR (i : Nat) (g : En → Option (List Nat)) : SF := fun ρ => match ρ[i]?, g ρ with
  | some s, some path => (match s.tree with
    | some d => (match getIn d path with
      | some (.list ds) => .nx (ρ.set i (s.putT (setIn d path (.list ds.reverse))))
      | _ => .bad)
    | none => .bad)
  | _, _ => .bad
theorem psd_revR {c : Expr} (hh : PE X c (tBM0 X.K "list" rReverse (tRQ X.K B i g))) (hs : swapsWith c none pos.line X.env = pure false := by rfl) : PSD X B W (.Expr c pos) (revR i g) :=
  PS.imp (ps_expr hh hs) fun D' σ H ⟨Hs, ρ, sl, q⟩ => by
  unfold revR at q
  cases e0 : ρ[i]? with
  | none => rw [e0] at q; exact q.elim
  | some s =>
    cases e2 : g ρ with
    | none => rw [e0, e2] at q; exact q.elim
    | some path =>
      rw [e0, e2] at q
      dsimp only at q
      cases e4 : s.tree with
      | none => rw [e4] at q; exact q.elim
      | some d =>
        rw [e4] at q
        dsimp only at q
        cases e5 : getIn d path with
        | none => rw [e5] at q; exact q.elim
        | some c0 =>
          rw [e5] at q
          obtain ⟨ds, rfl⟩ : ∃ ds, c0 = .list ds := by
            cases c0 with
            | list ds => exact ⟨ds, rfl⟩
            | _ => exact q.elim
          dsimp only at q
          obtain ⟨p, qa, f, fc, fo⟩ := sl.foc e0 e4 e5
          obtain ⟨vs, gg, hq, nq, ef, tA⟩ := fo.t.lstOf
          refine ⟨Hs, ρ, s, d, path, p, sl, e0, e4, fo.hp, e2, fun v hv => ?_⟩
          rw [fo.hv] at hv
          cases hv
          refine ⟨.inl ⟨rfl, _, .inl (.inl hq)⟩, qa, vs, rfl, rfl, hq, ?_⟩
          obtain ⟨f', tR, pf⟩ := tA.rev
          have nodup := fo.nd
          rw [ef] at nodup
          obtain ⟨n0, n1⟩ := List.nodup_cons.mp nodup
          have inG : ∀ a, a ∈ f' → a ∈ fc ∧ a ≠ qa := fun a m => by
            have m' := pf.mem_iff.mp m
            rw [ef]
            exact ⟨List.mem_cons_of_mem _ m', fun z => n0 (by rw [← z]; exact m')⟩
          have st0 : ∀ a ∈ f, (∀ o, H a = some o → H a = some o) ∧ Hs a = none := fun a m => ⟨fun o e => e, (fo.th a m).2⟩
          have tN : Tre X.K B.pin Hs (L2.upd H qa (.lst vs.reverse)) (.ref qa) (bx (.list ds.reverse)) (qa :: f') :=
            .lst L2.upd_same nq (tR.mono (.refl _) (fun _ _ z => z) (fun a m o e => by rw [L2.upd_ne (inG a m).2]; exact e) fun a m z => z)
          obtain ⟨F, fe, nF⟩ := fo.feet
          have sl2 := fo.write fo.hid ⟨F, fe, nF, fun jj a m => ?_⟩ (.refl _) st0 (by rw [ef]; exact List.mem_cons_self) tN ?_ fun a m => ?_
          · rw [List.set_set] at sl2
            exact q σ Hs _ sl2 (.refl _)
          · exact (List.mem_cons.mp m).elim (fun z => by rw [z]; exact nF jj _ (fo.inF _ (by rw [ef]; exact List.mem_cons_self))) fun m => nF jj a (fo.inF a (inG a m).1)
          · exact List.nodup_cons.mpr ⟨fun m => (inG qa m).2 rfl, pf.nodup_iff.mpr n1⟩
          · exact .inl ((List.mem_cons.mp m).elim (fun z => by rw [z, ef]; exact List.mem_cons_self) fun m => (inG a m).1)
end
end DL

/-! K06a -/
namespace LW
open PySem PySem.Spec PyProof.Rows L2 DL
def topS (i : Nat) : Stmt := PySem.Challenge.pw_cotide_k06_squares_and_sides.main.body.getD i (.Pass ⟨0, 0, 0, 0⟩)
structure Tx (K : PySem.W.Frag) (mg : MG) : Prop where
  b_ValueError : mg "ValueError" = none
  b_all : mg "all" = none
  b_bool : mg "bool" = none
  b_int : mg "int" = none
  b_isinstance : mg "isinstance" = none
  b_len : mg "len" = none
  b_list : mg "list" = none
  b_range : mg "range" = none
  b_sorted : mg "sorted" = none
  b_str : mg "str" = none
  b_tuple : mg "tuple" = none
  b_zip : mg "zip" = none
  c_FEWEST_HOURS : ∃ t, mg "FEWEST_HOURS" = some (.int (3) t)
  c_MOST_HOURS : ∃ t, mg "MOST_HOURS" = some (.int (15) t)
  c_MOST_SIDE : ∃ t, mg "MOST_SIDE" = some (.int (9) t)
  c_UNTOLD : ∃ t, mg "UNTOLD" = some (.int (-2) t)
  e_BadChart : ExcK K mg "BadChart" (He.ga K "BadChart")
  e_BadSquare : ExcK K mg "BadSquare" (He.ga K "BadSquare")
  e_TideError : ExcK K mg "TideError" (He.ga K "TideError")
open DH LamX
def kt : Kt := [("BadClock", "clock"), ("BadHour", "hour"), ("BadChart", "chart"), ("BadSquare", "square"), ("BadRing", "ring"), ("BadBreaks", "breaks"), ("BadPrices", "prices"), ("NoFill", "fill"), ("Unlike", "unlike"), ("BadName", "name"), ("Taken", "taken"), ("Full", "full"), ("NoChart", "none"), ("BadDay", "day"), ("BadDeed", "deed"), ("NothingLeft", "left"), ("Knotted", "knotted"), ("BadText", "text")]
abbrev LT (K : PySem.W.Frag) : List (Addr × Str) := [((He.cT K ("law", none)).2, "law.<locals>.<lambda>")]

/-! is_clock -/
abbrev s_is_clock : Stmt := topS 23
abbrev N_is_clock : List Str := ["clock"]
theorem sc_is_clock : FnScope N_is_clock ["clock"] (defScope s_is_clock) := ⟨rfl, rfl, rfl, by decide +kernel, rfl, by decide +kernel, by decide +kernel⟩
def f_is_clock : SF :=
  (retS (andF (chF leD leD (cst (.int (3))) (vr 0) (cst (.int (15)))) (op2 eqD (op2 modD (vr 0) (cst (.int 2))) (cst (.int 1)))))
def F_is_clock : List D → R := runD [.p] 1 f_is_clock
theorem ok_is_clock {P : Program} {w : World} {K : PySem.W.Frag} {mg : MG} {base : Heap} (T : Tx K mg)  (Dk : DefK K mg "is_clock" (He.ga K "is_clock") s_is_clock ["clock"] [[]]) : DefOk P w K mg base 1 "is_clock" (He.ga K "is_clock") ["clock"] [[]] (spD K mg [.p] F_is_clock) :=
  Dk.of (k := 0) sc_is_clock rfl fun cdv A outer s H E B W hr tk => by
    exact (psd_one (psd_ret (pd_and (pd_ch ox_le ox_le (pd_giE (by rfl) T.c_FEWEST_HOURS) (pd_v (pv 0)) (pd_giE (by rfl) T.c_MOST_HOURS)) (pd_one (pd_cmp (ox_eq hr.units) (pd_bin ox_mod (pd_v (pv 0)) pd_int) pd_int (nomark _))))))
/-! is_square -/
abbrev s_is_square : Stmt := topS 27
abbrev N_is_square : List Str := ["clock", "square"]
theorem sc_is_square : FnScope N_is_square ["clock", "square"] (defScope s_is_square) := ⟨rfl, rfl, rfl, by decide +kernel, rfl, by decide +kernel, by decide +kernel⟩
def f_is_square : SF :=
  (retS (chF leD ltD (cst (.int (-2))) (vr 1) (vr 0)))
def F_is_square : List D → R := runD [.p, .p] 2 f_is_square
theorem ok_is_square {P : Program} {w : World} {K : PySem.W.Frag} {mg : MG} {base : Heap} (T : Tx K mg)  (Dk : DefK K mg "is_square" (He.ga K "is_square") s_is_square ["clock", "square"] [[]]) : DefOk P w K mg base 1 "is_square" (He.ga K "is_square") ["clock", "square"] [[]] (spD K mg [.p, .p] F_is_square) :=
  Dk.of (k := 0) sc_is_square rfl fun cdv A outer s H E B W hr tk => by
    exact (psd_one (psd_ret (pd_ch ox_le ox_lt (pd_giE (by rfl) T.c_UNTOLD) (pd_v (pv 1)) (pd_v (pv 0)))))
/-! is_chart -/
abbrev s_is_chart : Stmt := topS 28
abbrev N_is_chart : List Str := ["chart", "clock", "rows", "wide", "row", "one"]
theorem sc_is_chart : FnScope N_is_chart ["chart"] (defScope s_is_chart) := ⟨rfl, rfl, rfl, by decide +kernel, rfl, by decide +kernel, by decide +kernel⟩
def E_is_chart_1 : EF :=
  (callF [.p, .p] F_is_square [] (consF (vr 1) (consF (vr 5) nilF)))
def C_is_chart_1 : CF :=
  (compC (.nm 5) (List.map (·.2) ([("one", 5)] : List (Str × Nat))) (srcF (vr 4)) yes E_is_chart_1)
def E_is_chart_2 : EF :=
  (andF (op2 eqD (bltF (one lenD) (consF (vr 4) nilF)) (vr 3)) (bltF (one allD) (consF (frC C_is_chart_1) nilF)))
def C_is_chart_2 : CF :=
  (compC (.nm 4) (List.map (·.2) ([("row", 4)] : List (Str × Nat))) (srcF (vr 2)) yes E_is_chart_2)
def f_is_chart : SF :=
  (seqS (asgT (.tp [(.nm 1), (.nm 2)]) (vr 0))
  (seqS (ifS (orB (notB (bF (callF [.p] F_is_clock [] (consF (vr 1) nilF)))) (notB (bF (chF leD leD (cst (.int 1)) (bltF (one lenD) (consF (vr 2) nilF)) (cst (.int (9))))))) (retS (cst (.bool false))) nxS)
  (seqS (asg 3 (bltF (one lenD) (consF (op2 ixD (vr 2) (cst (.int 0))) nilF)))
  (seqS (ifS (notB (bF (chF leD leD (cst (.int 1)) (vr 3) (cst (.int (9)))))) (retS (cst (.bool false))) nxS)
  (retS (bltF (one allD) (consF (frC C_is_chart_2) nilF)))))))
def F_is_chart : List D → R := runD [.p] 6 f_is_chart
theorem ok_is_chart {P : Program} {w : World} {K : PySem.W.Frag} {mg : MG} {base : Heap} (T : Tx K mg) (G_is_clock : DefOk P w K mg base 1 "is_clock" (He.ga K "is_clock") ["clock"] [[]] (spD K mg [.p] F_is_clock)) (G_is_square : DefOk P w K mg base 1 "is_square" (He.ga K "is_square") ["clock", "square"] [[]] (spD K mg [.p, .p] F_is_square)) (Dk : DefK K mg "is_chart" (He.ga K "is_chart") s_is_chart ["chart"] [[]]) : DefOk P w K mg base 2 "is_chart" (He.ga K "is_chart") ["chart"] [[]] (spD K mg [.p] F_is_chart) :=
  Dk.of (k := 1) sc_is_chart rfl fun cdv A outer s H E B W hr tk => by
    exact (psd_cons (psd_asgT (pd_v (pv 0)) (pgd_tp rfl (pgsd_cons (pgd_nm (i := 1) sc_is_chart.nd rfl (.inr rfl)) (pgsd_cons (pgd_nm (i := 2) sc_is_chart.nd rfl (.inl rfl)) pgsd_nil)) rfl))
      (psd_cons (psd_if (pb_w (pw_o (pb_not (pb_v (pd_cl [] G_is_clock (by simp) tk (hr.mono (by omega)) (by rfl) (pad_cons (pd_v (pv 1)) pad_nil)))) (pw_o1 (pb_not (pb_ch ox_le ox_le pd_int (pd_blt cx_len (by rfl) T.b_len boot_len (pad_cons (pd_v (pv 2)) pad_nil)) (pd_giE (by rfl) T.c_MOST_SIDE)))))) (psd_one (psd_ret pd_bl)) psd_nil)
      (psd_cons (psd_set (i := 3) sc_is_chart.nd rfl (.inr rfl) (pd_blt cx_len (by rfl) T.b_len boot_len (pad_cons (pd_ix ix_data (pd_v (pv 2)) pd_int (fun _ _ => rfl)) pad_nil)))
      (psd_cons (psd_if (pb_not (pb_ch ox_le ox_le pd_int (pd_v (pv 3)) (pd_giE (by rfl) T.c_MOST_SIDE))) (psd_one (psd_ret pd_bl)) psd_nil)
      (psd_one (psd_ret (pd_blt (cx_all rfl) (by rfl) T.b_all (by decide +kernel) (pad_cons (pd_fr (pc_lc rfl sc_is_chart.nd (pid_seq (pd_v (pv 2))) (blkOk_by (own := [("row", 4)]) (N := N_is_chart) (sc := defScope s_is_chart) (by decide +kernel)) (fun _ _ _ _ _ _ => (pgd_nm (i := 4) sc_is_chart.nd rfl (.inl rfl))) (fun _ _ _ _ _ _ => ptsd_nil) (fun _ _ _ _ _ _ => (pd_and (pd_cmp (ox_eq hr.units) (pd_blt cx_len (by rfl) T.b_len boot_len (pad_cons (pd_v (pv 4)) pad_nil)) (pd_v (pv 3)) (nomark _)) (pd_one (pd_blt (cx_all rfl) (by rfl) T.b_all (by decide +kernel) (pad_cons (pd_fr (pc_lc rfl sc_is_chart.nd (pid_seq (pd_v (pv 4))) (blkOk_by (own := [("one", 5)]) (by kernel_rfl)) (fun _ _ _ _ _ _ => (pgd_nm (i := 5) sc_is_chart.nd rfl (.inl rfl))) (fun _ _ _ _ _ _ => ptsd_nil) (fun _ _ _ _ _ _ => (pd_cl [] G_is_square (by simp) DH.takes0N (hr.mono (by omega)) (by rfl) (pad_cons (pd_v (pv 1)) (pad_cons (pd_v (pv 5)) pad_nil)))))) pad_nil))))))) pad_nil))))))))
/-! need_chart -/
abbrev s_need_chart : Stmt := topS 29
abbrev N_need_chart : List Str := ["chart"]
theorem sc_need_chart : FnScope N_need_chart ["chart"] (defScope s_need_chart) := ⟨rfl, rfl, rfl, by decide +kernel, rfl, by decide +kernel, by decide +kernel⟩
def f_need_chart : SF :=
  (ifS (notB (bF (callF [.p] F_is_chart [] (consF (vr 0) nilF)))) (raiseS ⟨"BadChart", []⟩) nxS)
def F_need_chart : List D → R := runD [.p] 1 f_need_chart
theorem ok_need_chart {P : Program} {w : World} {K : PySem.W.Frag} {mg : MG} {base : Heap} (T : Tx K mg) (G_is_chart : DefOk P w K mg base 2 "is_chart" (He.ga K "is_chart") ["chart"] [[]] (spD K mg [.p] F_is_chart)) (Dk : DefK K mg "need_chart" (He.ga K "need_chart") s_need_chart ["chart"] [[]]) : DefOk P w K mg base 3 "need_chart" (He.ga K "need_chart") ["chart"] [[]] (spD K mg [.p] F_need_chart) :=
  Dk.of (k := 2) sc_need_chart rfl fun cdv A outer s H E B W hr tk => by
    exact (psd_one (psd_if (pb_not (pb_v (pd_cl [] G_is_chart (by simp) tk (hr.mono (by omega)) (by rfl) (pad_cons (pd_v (pv 0)) pad_nil)))) (psd_one (psd_raise0 rfl tk T.e_BadChart.g (pmk_own0 PySem.F.excBase_ValueError T.e_BadChart.x T.e_BadChart.g T.e_BadChart.k (raises_own T.e_BadChart.b T.e_BadChart.t) (by rfl)))) psd_nil))
/-! size -/
abbrev s_size : Stmt := topS 30
abbrev N_size : List Str := ["chart"]
theorem sc_size : FnScope N_size ["chart"] (defScope s_size) := ⟨rfl, rfl, rfl, by decide +kernel, rfl, by decide +kernel, by decide +kernel⟩
def f_size : SF :=
  (seqS (exprS (callF [.p] F_need_chart [] (consF (vr 0) nilF)))
  (retS (tupF (consF (bltF (one lenD) (consF (op2 ixD (vr 0) (cst (.int 1))) nilF)) (consF (bltF (one lenD) (consF (op2 ixD (op2 ixD (vr 0) (cst (.int 1))) (cst (.int 0))) nilF)) nilF)))))
def F_size : List D → R := runD [.p] 1 f_size
theorem ok_size {P : Program} {w : World} {K : PySem.W.Frag} {mg : MG} {base : Heap} (T : Tx K mg) (G_need_chart : DefOk P w K mg base 3 "need_chart" (He.ga K "need_chart") ["chart"] [[]] (spD K mg [.p] F_need_chart)) (Dk : DefK K mg "size" (He.ga K "size") s_size ["chart"] [[]]) : DefOk P w K mg base 4 "size" (He.ga K "size") ["chart"] [[]] (spD K mg [.p] F_size) :=
  Dk.of (k := 3) sc_size rfl fun cdv A outer s H E B W hr tk => by
    exact (psd_cons (psd_expr (pd_cl [] G_need_chart (by simp) tk (hr.mono (by omega)) (by rfl) (pad_cons (pd_v (pv 0)) pad_nil)))
      (psd_one (psd_ret (pd_tup (pad_cons (pd_blt cx_len (by rfl) T.b_len boot_len (pad_cons (pd_ix ix_data (pd_v (pv 0)) pd_int (fun _ _ => rfl)) pad_nil)) (pad_cons (pd_blt cx_len (by rfl) T.b_len boot_len (pad_cons (pd_ix ix_data (pd_ix ix_data (pd_v (pv 0)) pd_int (fun _ _ => rfl)) pd_int (fun _ _ => rfl)) pad_nil)) pad_nil))))))
/-! within -/
abbrev s_within : Stmt := topS 31
abbrev N_within : List Str := ["chart", "square", "row", "column"]
theorem sc_within : FnScope N_within ["chart", "square"] (defScope s_within) := ⟨rfl, rfl, rfl, by decide +kernel, rfl, by decide +kernel, by decide +kernel⟩
def f_within : SF :=
  (seqS (asgT (.tp [(.nm 2), (.nm 3)]) (vr 1))
  (retS (andF (chF leD ltD (cst (.int 0)) (vr 2) (bltF (one lenD) (consF (op2 ixD (vr 0) (cst (.int 1))) nilF))) (chF leD ltD (cst (.int 0)) (vr 3) (bltF (one lenD) (consF (op2 ixD (op2 ixD (vr 0) (cst (.int 1))) (cst (.int 0))) nilF))))))
def F_within : List D → R := runD [.p, .p] 4 f_within
theorem ok_within {P : Program} {w : World} {K : PySem.W.Frag} {mg : MG} {base : Heap} (T : Tx K mg)  (Dk : DefK K mg "within" (He.ga K "within") s_within ["chart", "square"] [[]]) : DefOk P w K mg base 1 "within" (He.ga K "within") ["chart", "square"] [[]] (spD K mg [.p, .p] F_within) :=
  Dk.of (k := 0) sc_within rfl fun cdv A outer s H E B W hr tk => by
    exact (psd_cons (psd_asgT (pd_v (pv 1)) (pgd_tp rfl (pgsd_cons (pgd_nm (i := 2) sc_within.nd rfl (.inl rfl)) (pgsd_cons (pgd_nm (i := 3) sc_within.nd rfl (.inl rfl)) pgsd_nil)) rfl))
      (psd_one (psd_ret (pd_and (pd_ch ox_le ox_lt pd_int (pd_v (pv 2)) (pd_blt cx_len (by rfl) T.b_len boot_len (pad_cons (pd_ix ix_data (pd_v (pv 0)) pd_int (fun _ _ => rfl)) pad_nil))) (pd_one (pd_ch ox_le ox_lt pd_int (pd_v (pv 3)) (pd_blt cx_len (by rfl) T.b_len boot_len (pad_cons (pd_ix ix_data (pd_ix ix_data (pd_v (pv 0)) pd_int (fun _ _ => rfl)) pd_int (fun _ _ => rfl)) pad_nil))))))))
/-! need_square -/
abbrev s_need_square : Stmt := topS 32
abbrev N_need_square : List Str := ["chart", "square"]
theorem sc_need_square : FnScope N_need_square ["chart", "square"] (defScope s_need_square) := ⟨rfl, rfl, rfl, by decide +kernel, rfl, by decide +kernel, by decide +kernel⟩
def f_need_square : SF :=
  (ifS (notB (bF (callF [.p, .p] F_within [] (consF (vr 0) (consF (vr 1) nilF))))) (raiseS ⟨"BadSquare", []⟩) nxS)
def F_need_square : List D → R := runD [.p, .p] 2 f_need_square
theorem ok_need_square {P : Program} {w : World} {K : PySem.W.Frag} {mg : MG} {base : Heap} (T : Tx K mg) (G_within : DefOk P w K mg base 1 "within" (He.ga K "within") ["chart", "square"] [[]] (spD K mg [.p, .p] F_within)) (Dk : DefK K mg "need_square" (He.ga K "need_square") s_need_square ["chart", "square"] [[]]) : DefOk P w K mg base 2 "need_square" (He.ga K "need_square") ["chart", "square"] [[]] (spD K mg [.p, .p] F_need_square) :=
  Dk.of (k := 1) sc_need_square rfl fun cdv A outer s H E B W hr tk => by
    exact (psd_one (psd_if (pb_not (pb_v (pd_cl [] G_within (by simp) tk (hr.mono (by omega)) (by rfl) (pad_cons (pd_v (pv 0)) (pad_cons (pd_v (pv 1)) pad_nil))))) (psd_one (psd_raise0 rfl tk T.e_BadSquare.g (pmk_own0 PySem.F.excBase_ValueError T.e_BadSquare.x T.e_BadSquare.g T.e_BadSquare.k (raises_own T.e_BadSquare.b T.e_BadSquare.t) (by rfl)))) psd_nil))
/-! value -/
abbrev s_value : Stmt := topS 33
abbrev N_value : List Str := ["chart", "square"]
theorem sc_value : FnScope N_value ["chart", "square"] (defScope s_value) := ⟨rfl, rfl, rfl, by decide +kernel, rfl, by decide +kernel, by decide +kernel⟩
def f_value : SF :=
  (retS (op2 ixD (op2 ixD (op2 ixD (vr 0) (cst (.int 1))) (op2 ixD (vr 1) (cst (.int 0)))) (op2 ixD (vr 1) (cst (.int 1)))))
def F_value : List D → R := runD [.p, .p] 2 f_value
theorem ok_value {P : Program} {w : World} {K : PySem.W.Frag} {mg : MG} {base : Heap} (T : Tx K mg)  (Dk : DefK K mg "value" (He.ga K "value") s_value ["chart", "square"] [[]]) : DefOk P w K mg base 1 "value" (He.ga K "value") ["chart", "square"] [[]] (spD K mg [.p, .p] F_value) :=
  Dk.of (k := 0) sc_value rfl fun cdv A outer s H E B W hr tk => by
    exact (psd_one (psd_ret (pd_ix ix_data (pd_ix ix_data (pd_ix ix_data (pd_v (pv 0)) pd_int (fun _ _ => rfl)) (pd_ix ix_data (pd_v (pv 1)) pd_int (fun _ _ => rfl)) (fun _ _ => rfl)) (pd_ix ix_data (pd_v (pv 1)) pd_int (fun _ _ => rfl)) (fun _ _ => rfl))))
/-! hour_at -/
abbrev s_hour_at : Stmt := topS 34
abbrev N_hour_at : List Str := ["chart", "square"]
theorem sc_hour_at : FnScope N_hour_at ["chart", "square"] (defScope s_hour_at) := ⟨rfl, rfl, rfl, by decide +kernel, rfl, by decide +kernel, by decide +kernel⟩
def f_hour_at : SF :=
  (seqS (exprS (callF [.p] F_need_chart [] (consF (vr 0) nilF)))
  (seqS (exprS (callF [.p, .p] F_need_square [] (consF (vr 0) (consF (vr 1) nilF))))
  (retS (callF [.p, .p] F_value [] (consF (vr 0) (consF (vr 1) nilF))))))
def F_hour_at : List D → R := runD [.p, .p] 2 f_hour_at
theorem ok_hour_at {P : Program} {w : World} {K : PySem.W.Frag} {mg : MG} {base : Heap} (T : Tx K mg) (G_need_chart : DefOk P w K mg base 3 "need_chart" (He.ga K "need_chart") ["chart"] [[]] (spD K mg [.p] F_need_chart)) (G_need_square : DefOk P w K mg base 2 "need_square" (He.ga K "need_square") ["chart", "square"] [[]] (spD K mg [.p, .p] F_need_square)) (G_value : DefOk P w K mg base 1 "value" (He.ga K "value") ["chart", "square"] [[]] (spD K mg [.p, .p] F_value)) (Dk : DefK K mg "hour_at" (He.ga K "hour_at") s_hour_at ["chart", "square"] [[]]) : DefOk P w K mg base 4 "hour_at" (He.ga K "hour_at") ["chart", "square"] [[]] (spD K mg [.p, .p] F_hour_at) :=
  Dk.of (k := 3) sc_hour_at rfl fun cdv A outer s H E B W hr tk => by
    exact (psd_cons (psd_expr (pd_cl [] G_need_chart (by simp) tk (hr.mono (by omega)) (by rfl) (pad_cons (pd_v (pv 0)) pad_nil)))
      (psd_cons (psd_expr (pd_cl [] G_need_square (by simp) tk (hr.mono (by omega)) (by rfl) (pad_cons (pd_v (pv 0)) (pad_cons (pd_v (pv 1)) pad_nil))))
      (psd_one (psd_ret (pd_cl [] G_value (by simp) tk (hr.mono (by omega)) (by rfl) (pad_cons (pd_v (pv 0)) (pad_cons (pd_v (pv 1)) pad_nil)))))))
/-! every_square -/
abbrev s_every_square : Stmt := topS 36
abbrev N_every_square : List Str := ["chart", "wide", "at"]
theorem sc_every_square : FnScope N_every_square ["chart"] (defScope s_every_square) := ⟨rfl, rfl, rfl, by decide +kernel, rfl, by decide +kernel, by decide +kernel⟩
def E_every_square_1 : EF :=
  (tupF (consF (op2 divD (vr 2) (vr 1)) (consF (op2 modD (vr 2) (vr 1)) nilF)))
def C_every_square_1 : CF :=
  (compC (.nm 2) (List.map (·.2) ([("at", 2)] : List (Str × Nat))) (srcR1 (op2 mulD (vr 1) (bltF (one lenD) (consF (op2 ixD (vr 0) (cst (.int 1))) nilF)))) yes E_every_square_1)
def f_every_square : SF :=
  (seqS (asg 1 (bltF (one lenD) (consF (op2 ixD (op2 ixD (vr 0) (cst (.int 1))) (cst (.int 0))) nilF)))
  (retC C_every_square_1))
def F_every_square : List D → R := runD [.p] 3 f_every_square
theorem ok_every_square {P : Program} {w : World} {K : PySem.W.Frag} {mg : MG} {base : Heap} (T : Tx K mg)  (Dk : DefK K mg "every_square" (He.ga K "every_square") s_every_square ["chart"] [[]]) : DefOk P w K mg base 1 "every_square" (He.ga K "every_square") ["chart"] [[]] (spD K mg [.p] F_every_square) :=
  Dk.of (k := 0) sc_every_square rfl fun cdv A outer s H E B W hr tk => by
    exact (psd_cons (psd_set (i := 1) sc_every_square.nd rfl (.inr rfl) (pd_blt cx_len (by rfl) T.b_len boot_len (pad_cons (pd_ix ix_data (pd_ix ix_data (pd_v (pv 0)) pd_int (fun _ _ => rfl)) pd_int (fun _ _ => rfl)) pad_nil)))
      (psd_one (psd_retC (pc_lc rfl sc_every_square.nd (pid_r1 (by rfl) T.b_range (pd_bin ox_mul (pd_v (pv 1)) (pd_blt cx_len (by rfl) T.b_len boot_len (pad_cons (pd_ix ix_data (pd_v (pv 0)) pd_int (fun _ _ => rfl)) pad_nil)))) (blkOk_by (own := [("at", 2)]) (N := N_every_square) (sc := defScope s_every_square) (by decide +kernel)) (fun _ _ _ _ _ _ => (pgd_nm (i := 2) sc_every_square.nd rfl (.inl rfl))) (fun _ _ _ _ _ _ => ptsd_nil) (fun _ _ _ _ _ _ => (pd_tup (pad_cons (pd_bin ox_div (pd_v (pv 2)) (pd_v (pv 1))) (pad_cons (pd_bin ox_mod (pd_v (pv 2)) (pd_v (pv 1))) pad_nil))))))))
/-! told_squares -/
abbrev s_told_squares : Stmt := topS 38
abbrev N_told_squares : List Str := ["chart", "square"]
theorem sc_told_squares : FnScope N_told_squares ["chart"] (defScope s_told_squares) := ⟨rfl, rfl, rfl, by decide +kernel, rfl, by decide +kernel, by decide +kernel⟩
def E_told_squares_1 : EF :=
  (vr 1)
def T_told_squares_1 : BF :=
  (bF (op2 geD (callF [.p, .p] F_value [] (consF (vr 0) (consF (vr 1) nilF))) (cst (.int 0))))
def C_told_squares_1 : CF :=
  (compC (.nm 1) (List.map (·.2) ([("square", 1)] : List (Str × Nat))) (srcF (callF [.p] F_every_square [] (consF (vr 0) nilF))) T_told_squares_1 E_told_squares_1)
def f_told_squares : SF :=
  (retC C_told_squares_1)
def F_told_squares : List D → R := runD [.p] 2 f_told_squares
theorem ok_told_squares {P : Program} {w : World} {K : PySem.W.Frag} {mg : MG} {base : Heap} (T : Tx K mg) (G_value : DefOk P w K mg base 1 "value" (He.ga K "value") ["chart", "square"] [[]] (spD K mg [.p, .p] F_value)) (G_every_square : DefOk P w K mg base 1 "every_square" (He.ga K "every_square") ["chart"] [[]] (spD K mg [.p] F_every_square)) (Dk : DefK K mg "told_squares" (He.ga K "told_squares") s_told_squares ["chart"] [[]]) : DefOk P w K mg base 2 "told_squares" (He.ga K "told_squares") ["chart"] [[]] (spD K mg [.p] F_told_squares) :=
  Dk.of (k := 1) sc_told_squares rfl fun cdv A outer s H E B W hr tk => by
    exact (psd_one (psd_retC (pc_lc rfl sc_told_squares.nd (pid_seq (pd_cl [] G_every_square (by simp) tk (hr.mono (by omega)) (by rfl) (pad_cons (pd_v (pv 0)) pad_nil))) (blkOk_by (own := [("square", 1)]) (N := N_told_squares) (sc := defScope s_told_squares) (by decide +kernel)) (fun _ _ _ _ _ _ => (pgd_nm (i := 1) sc_told_squares.nd rfl (.inl rfl))) (fun _ _ _ _ _ _ => (ptsd_one (pb_cmp ox_ge (pd_cl [] G_value (by simp) DH.takes0N (hr.mono (by omega)) (by rfl) (pad_cons (pd_v (pv 0)) (pad_cons (pd_v (pv 1)) pad_nil))) pd_int (nomark _)))) (fun _ _ _ _ _ _ => (pd_v (pv 1))))))
/-! told -/
abbrev s_told : Stmt := topS 37
abbrev N_told : List Str := ["chart"]
theorem sc_told : FnScope N_told ["chart"] (defScope s_told) := ⟨rfl, rfl, rfl, by decide +kernel, rfl, by decide +kernel, by decide +kernel⟩
def f_told : SF :=
  (seqS (exprS (callF [.p] F_need_chart [] (consF (vr 0) nilF)))
  (retC (callC [.p] F_told_squares [] (consF (vr 0) nilF))))
def F_told : List D → R := runD [.p] 1 f_told
theorem ok_told {P : Program} {w : World} {K : PySem.W.Frag} {mg : MG} {base : Heap} (T : Tx K mg) (G_need_chart : DefOk P w K mg base 3 "need_chart" (He.ga K "need_chart") ["chart"] [[]] (spD K mg [.p] F_need_chart)) (G_told_squares : DefOk P w K mg base 2 "told_squares" (He.ga K "told_squares") ["chart"] [[]] (spD K mg [.p] F_told_squares)) (Dk : DefK K mg "told" (He.ga K "told") s_told ["chart"] [[]]) : DefOk P w K mg base 4 "told" (He.ga K "told") ["chart"] [[]] (spD K mg [.p] F_told) :=
  Dk.of (k := 3) sc_told rfl fun cdv A outer s H E B W hr tk => by
    exact (psd_cons (psd_expr (pd_cl [] G_need_chart (by simp) tk (hr.mono (by omega)) (by rfl) (pad_cons (pd_v (pv 0)) pad_nil)))
      (psd_one (psd_retC (pc_cl [] G_told_squares (by simp) tk (hr.mono (by omega)) (by rfl) (pad_cons (pd_v (pv 0)) pad_nil)))))
/-! is_told -/
abbrev s_is_told : Stmt := topS 35
abbrev N_is_told : List Str := ["chart", "square"]
theorem sc_is_told : FnScope N_is_told ["chart", "square"] (defScope s_is_told) := ⟨rfl, rfl, rfl, by decide +kernel, rfl, by decide +kernel, by decide +kernel⟩
def f_is_told : SF :=
  (retS (andF (callF [.p, .p] F_within [] (consF (vr 0) (consF (vr 1) nilF))) (op2 geD (callF [.p, .p] F_value [] (consF (vr 0) (consF (vr 1) nilF))) (cst (.int 0)))))
def F_is_told : List D → R := runD [.p, .p] 2 f_is_told
theorem ok_is_told {P : Program} {w : World} {K : PySem.W.Frag} {mg : MG} {base : Heap} (T : Tx K mg) (G_within : DefOk P w K mg base 1 "within" (He.ga K "within") ["chart", "square"] [[]] (spD K mg [.p, .p] F_within)) (G_value : DefOk P w K mg base 1 "value" (He.ga K "value") ["chart", "square"] [[]] (spD K mg [.p, .p] F_value)) (Dk : DefK K mg "is_told" (He.ga K "is_told") s_is_told ["chart", "square"] [[]]) : DefOk P w K mg base 2 "is_told" (He.ga K "is_told") ["chart", "square"] [[]] (spD K mg [.p, .p] F_is_told) :=
  Dk.of (k := 1) sc_is_told rfl fun cdv A outer s H E B W hr tk => by
    exact (psd_one (psd_ret (pd_and (pd_cl [] G_within (by simp) tk (hr.mono (by omega)) (by rfl) (pad_cons (pd_v (pv 0)) (pad_cons (pd_v (pv 1)) pad_nil))) (pd_one (pd_cmp ox_ge (pd_cl [] G_value (by simp) tk (hr.mono (by omega)) (by rfl) (pad_cons (pd_v (pv 0)) (pad_cons (pd_v (pv 1)) pad_nil))) pd_int (nomark _))))))
/-! sides_of -/
abbrev s_sides_of : Stmt := topS 40
abbrev N_sides_of : List Str := ["chart", "found", "one", "other"]
theorem sc_sides_of : FnScope N_sides_of ["chart"] (defScope s_sides_of) := ⟨rfl, rfl, rfl, by decide +kernel, rfl, by decide +kernel, by decide +kernel⟩
def B_sides_of_1 : SF :=
  (ifS (bF (callF [.p, .p] F_is_told [] (consF (vr 0) (consF (vr 3) nilF)))) (appS 1 (tupF (consF (vr 2) (consF (vr 3) nilF)))) nxS)
def L_sides_of_1 : SF :=
  (forS (.nm 3) (srcF (tupF (consF (tupF (consF (op2 ixD (vr 2) (cst (.int 0))) (consF (op2 addD (op2 ixD (vr 2) (cst (.int 1))) (cst (.int 1))) nilF))) (consF (tupF (consF (op2 addD (op2 ixD (vr 2) (cst (.int 0))) (cst (.int 1))) (consF (op2 ixD (vr 2) (cst (.int 1))) nilF))) nilF)))) B_sides_of_1)
def B_sides_of_2 : SF :=
  L_sides_of_1
def L_sides_of_2 : SF :=
  (forS (.nm 2) (srcF (callF [.p] F_told_squares [] (consF (vr 0) nilF))) B_sides_of_2)
def f_sides_of : SF :=
  (seqS (asgO 1 (lstC nilF))
  (seqS L_sides_of_2
  (retO 1)))
def F_sides_of : List D → R := runD [.p] 4 f_sides_of
theorem ok_sides_of {P : Program} {w : World} {K : PySem.W.Frag} {mg : MG} {base : Heap} (T : Tx K mg) (G_told_squares : DefOk P w K mg base 2 "told_squares" (He.ga K "told_squares") ["chart"] [[]] (spD K mg [.p] F_told_squares)) (G_is_told : DefOk P w K mg base 2 "is_told" (He.ga K "is_told") ["chart", "square"] [[]] (spD K mg [.p, .p] F_is_told)) (Dk : DefK K mg "sides_of" (He.ga K "sides_of") s_sides_of ["chart"] [[]]) : DefOk P w K mg base 3 "sides_of" (He.ga K "sides_of") ["chart"] [[]] (spD K mg [.p] F_sides_of) :=
  Dk.of (k := 2) sc_sides_of rfl fun cdv A outer s H E B W hr tk => by
    exact (psd_cons (psd_setO (i := 1) sc_sides_of.nd rfl (.inl rfl) (pc_lst pad_nil))
      (psd_cons (psd_for (passes_of rfl) rfl (pid_seq (pd_cl [] G_told_squares (by simp) tk (hr.mono (by omega)) (by rfl) (pad_cons (pd_v (pv 0)) pad_nil))) (pgd_nm (i := 2) sc_sides_of.nd rfl (.inl rfl)) (psd_one (psd_for (passes_of rfl) rfl (pid_seq (pd_tup (pad_cons (pd_tup (pad_cons (pd_ix ix_data (pd_v (pv 2)) pd_int (fun _ _ => rfl)) (pad_cons (pd_bin ox_add (pd_ix ix_data (pd_v (pv 2)) pd_int (fun _ _ => rfl)) pd_int) pad_nil))) (pad_cons (pd_tup (pad_cons (pd_bin ox_add (pd_ix ix_data (pd_v (pv 2)) pd_int (fun _ _ => rfl)) pd_int) (pad_cons (pd_ix ix_data (pd_v (pv 2)) pd_int (fun _ _ => rfl)) pad_nil))) pad_nil)))) (pgd_nm (i := 3) sc_sides_of.nd rfl (.inl rfl)) (psd_one (psd_if (pb_v (pd_cl [] G_is_told (by simp) tk (hr.mono (by omega)) (by rfl) (pad_cons (pd_v (pv 0)) (pad_cons (pd_v (pv 3)) pad_nil)))) (psd_one (psd_app (i := 1) (pe_bm PySem.F.plainAttrs_list PySem.F.slot_list_append PySem.F.type_list_append mt_append (pv 1) (pa_cons (pd_tup (pad_cons (pd_v (pv 2)) (pad_cons (pd_v (pv 3)) pad_nil))) pa_nil)))) psd_nil)))))
      (psd_one (psd_retO (pv 1)))))
/-! sides -/
abbrev s_sides : Stmt := topS 39
abbrev N_sides : List Str := ["chart"]
theorem sc_sides : FnScope N_sides ["chart"] (defScope s_sides) := ⟨rfl, rfl, rfl, by decide +kernel, rfl, by decide +kernel, by decide +kernel⟩
def f_sides : SF :=
  (seqS (exprS (callF [.p] F_need_chart [] (consF (vr 0) nilF)))
  (retC (callC [.p] F_sides_of [] (consF (vr 0) nilF))))
def F_sides : List D → R := runD [.p] 1 f_sides
theorem ok_sides {P : Program} {w : World} {K : PySem.W.Frag} {mg : MG} {base : Heap} (T : Tx K mg) (G_need_chart : DefOk P w K mg base 3 "need_chart" (He.ga K "need_chart") ["chart"] [[]] (spD K mg [.p] F_need_chart)) (G_sides_of : DefOk P w K mg base 3 "sides_of" (He.ga K "sides_of") ["chart"] [[]] (spD K mg [.p] F_sides_of)) (Dk : DefK K mg "sides" (He.ga K "sides") s_sides ["chart"] [[]]) : DefOk P w K mg base 4 "sides" (He.ga K "sides") ["chart"] [[]] (spD K mg [.p] F_sides) :=
  Dk.of (k := 3) sc_sides rfl fun cdv A outer s H E B W hr tk => by
    exact (psd_cons (psd_expr (pd_cl [] G_need_chart (by simp) tk (hr.mono (by omega)) (by rfl) (pad_cons (pd_v (pv 0)) pad_nil)))
      (psd_one (psd_retC (pc_cl [] G_sides_of (by simp) tk (hr.mono (by omega)) (by rfl) (pad_cons (pd_v (pv 0)) pad_nil)))))
/-! _law_box -/
abbrev s__law_box : Stmt := topS 42
abbrev N__law_box : List Str := ["_law_script", "_law_seed", "_law_cell"]
theorem sc__law_box : FnScope N__law_box ["_law_script"] (defScope s__law_box) := ⟨rfl, rfl, rfl, by decide +kernel, rfl, by decide +kernel, by decide +kernel⟩
def f_law_box (a : Addr) (ns : List Int) : SF :=
  (seqS (asg 1 (cst (.int 7)))
  (seqS (forS (.nm 2) (srcF (scrF a ns)) (asg 1 (op2 modD (op2 addD (op2 addD (op2 mulD (vr 1) (cst (.int 48271))) (op2 modD (vr 2) (cst (.int 1000003)))) (cst (.int 11))) (cst (.int 2147483647)))))
  (retC (lstC (consF (frC (bltC (one listD) (consF (scrF a ns) nilF))) (consF (cst (.int 0)) (consF (cst (.int 0)) (consF (cst (.int 0)) (consF (vr 1) nilF)))))))))
theorem ok_law_box {P : Program} {w : World} {K : PySem.W.Frag} {mg : MG} {base : Heap} (T : Tx K mg) {fd : FuncData} (Fd : FunD K "_law_box" "_law_box" (defArgs s__law_box) (defBody s__law_box) (defScope s__law_box) [] [] (He.ga K "_law_box") fd) : FnOk P w K mg base (L2N.CX P w) 1 (He.ga K "_law_box") fd ["_law_script"] (spBox K f_law_box 3) :=
  defBox (k := 0) Fd sc__law_box fun ns a cdv A outer s H E B W hr tk hS => by
    exact (psd_cons (psd_set (i := 1) sc__law_box.nd rfl (.inl rfl) pd_int)
      (psd_cons (psd_for (passes_of rfl) rfl (pid_seq (pd_scr hS (pv 0))) (pgd_nm (i := 2) sc__law_box.nd rfl (.inl rfl)) (psd_one (psd_set (i := 1) sc__law_box.nd rfl (.inl rfl) (pd_bin ox_mod (pd_bin ox_add (pd_bin ox_add (pd_bin ox_mul (pd_v (pv 1)) pd_int) (pd_bin ox_mod (pd_v (pv 2)) pd_int)) pd_int) pd_int))))
      (psd_one (psd_retC (pc_lst (pad_cons (pd_fr (pc_bty cx_list (by rfl) T.b_list (by decide +kernel) (pad_cons (pd_scr hS (pv 0)) pad_nil))) (pad_cons pd_int (pad_cons pd_int (pad_cons pd_int (pad_cons (pd_v (pv 1)) pad_nil))))))))))
/-! _law_whole -/
abbrev s__law_whole : Stmt := topS 45
abbrev N__law_whole : List Str := ["_law_found"]
theorem sc__law_whole : FnScope N__law_whole ["_law_found"] (defScope s__law_whole) := ⟨rfl, rfl, rfl, by decide +kernel, rfl, by decide +kernel, by decide +kernel⟩
def f__law_whole : SF :=
  (retS (andF (op1 (isiD .int) (vr 0)) (op1 notD (op1 (isiD .bool) (vr 0)))))
def F__law_whole : List D → R := runD [.p] 1 f__law_whole
theorem ok__law_whole {P : Program} {w : World} {K : PySem.W.Frag} {mg : MG} {base : Heap} (T : Tx K mg)  (Dk : DefK K mg "_law_whole" (He.ga K "_law_whole") s__law_whole ["_law_found"] [[]]) : DefOk P w K mg base 1 "_law_whole" (He.ga K "_law_whole") ["_law_found"] [[]] (spD K mg [.p] F__law_whole) :=
  Dk.of (k := 0) sc__law_whole rfl fun cdv A outer s H E B W hr tk => by
    exact (psd_one (psd_ret (pd_and (pd_isi (T := .int) (pe_callB call_isi (by rfl) T.b_isinstance (by decide +kernel) (pa_cons (pd_v (pv 0)) (pa_cons (pe_bltn (v := .ty "int") (u := .type "int") (by rfl) T.b_int (by decide +kernel) rfl) pa_nil)))) (pd_one (pd_not (pd_isi (T := .bool) (pe_callB call_isi (by rfl) T.b_isinstance (by decide +kernel) (pa_cons (pd_v (pv 0)) (pa_cons (pe_bltn (v := .ty "bool") (u := .type "bool") (by rfl) T.b_bool (by decide +kernel) rfl) pa_nil)))))))))
/-! _law_same -/
abbrev s__law_same : Stmt := topS 46
abbrev N__law_same : List Str := ["_law_found", "_law_due", "_law_one", "_law_other"]
theorem sc__law_same : FnScope N__law_same ["_law_found", "_law_due"] (defScope s__law_same) := ⟨rfl, rfl, rfl, by decide +kernel, rfl, by decide +kernel, by decide +kernel⟩
def f__law_same (FR : List D → R) : SF :=
  (seqS (ifS (bF (op2 isD (vr 1) (cst .none))) (retS (op2 isD (vr 0) (cst .none))) nxS)
  (seqS (ifS (bF (op1 (isiD .bool) (vr 1))) (retS (andF (op1 (isiD .bool) (vr 0)) (op2 eqD (vr 0) (vr 1)))) nxS)
  (seqS (ifS (bF (op1 (isiD .int) (vr 1))) (retS (andF (callF [.p] F__law_whole [] (consF (vr 0) nilF)) (op2 eqD (vr 0) (vr 1)))) nxS)
  (seqS (ifS (bF (op1 (isiD .str) (vr 1))) (retS (andF (op1 (isiD .str) (vr 0)) (op2 eqD (vr 0) (vr 1)))) nxS)
  (seqS (ifS (bF (op2 neD (op1 (isiD .list) (vr 1)) (op1 (isiD .list) (vr 0)))) (retS (cst (.bool false))) nxS)
  (seqS (ifS (bF (op2 neD (op1 (isiD .tuple) (vr 1)) (op1 (isiD .tuple) (vr 0)))) (retS (cst (.bool false))) nxS)
  (seqS (ifS (orB (notB (bF (op1 (isiAnyD [.list, .tuple]) (vr 0)))) (bF (op2 neD (bltF (one lenD) (consF (vr 0) nilF)) (bltF (one lenD) (consF (vr 1) nilF))))) (retS (cst (.bool false))) nxS)
  (retS (bltF (one allD) (consF (frC (compC (.tp [(.nm 2), (.nm 3)]) (List.map (·.2) ([("_law_one", 2), ("_law_other", 3)] : List (Str × Nat))) (srcZ (vr 0) (vr 1)) yes (callF [.p, .p] FR [] (consF (vr 2) (consF (vr 3) nilF))))) nilF))))))))))
def F__law_same : Nat → List D → R
  | 0 => fun _ => .bad
  | n + 1 => runD [.p, .p] 4 (f__law_same (F__law_same n))
theorem ok__law_same {P : Program} {w : World} {K : PySem.W.Frag} {mg : MG} {base : Heap} (T : Tx K mg) (G__law_whole : DefOk P w K mg base 1 "_law_whole" (He.ga K "_law_whole") ["_law_found"] [[]] (spD K mg [.p] F__law_whole)) (Dk : DefK K mg "_law_same" (He.ga K "_law_same") s__law_same ["_law_found", "_law_due"] [[]]) : ∀ n : Nat, DefOk P w K mg base (n + 2) "_law_same" (He.ga K "_law_same") ["_law_found", "_law_due"] [[]] (spD K mg [.p, .p] (F__law_same n)) := by
  intro n
  induction n with
  | zero => exact Dk.zero
  | succ n IH =>
    let FR := F__law_same n
    exact Dk.of sc__law_same rfl fun cdv A outer s H E B W hr tk => by
      exact (psd_cons (psd_if (pb_cmp ox_is (pd_v (pv 1)) pd_non (nomark _)) (psd_one (psd_ret (pd_cmp ox_is (pd_v (pv 0)) pd_non (nomark _)))) psd_nil)
      (psd_cons (psd_if (pb_v (pd_isi (T := .bool) (pe_callB call_isi (by rfl) T.b_isinstance (by decide +kernel) (pa_cons (pd_v (pv 1)) (pa_cons (pe_bltn (v := .ty "bool") (u := .type "bool") (by rfl) T.b_bool (by decide +kernel) rfl) pa_nil))))) (psd_one (psd_ret (pd_and (pd_isi (T := .bool) (pe_callB call_isi (by rfl) T.b_isinstance (by decide +kernel) (pa_cons (pd_v (pv 0)) (pa_cons (pe_bltn (v := .ty "bool") (u := .type "bool") (by rfl) T.b_bool (by decide +kernel) rfl) pa_nil)))) (pd_one (pd_cmp (ox_eq hr.units) (pd_v (pv 0)) (pd_v (pv 1)) (nomark _)))))) psd_nil)
      (psd_cons (psd_if (pb_v (pd_isi (T := .int) (pe_callB call_isi (by rfl) T.b_isinstance (by decide +kernel) (pa_cons (pd_v (pv 1)) (pa_cons (pe_bltn (v := .ty "int") (u := .type "int") (by rfl) T.b_int (by decide +kernel) rfl) pa_nil))))) (psd_one (psd_ret (pd_and (pd_cl [] G__law_whole (by simp) tk (hr.mono (by omega)) (by rfl) (pad_cons (pd_v (pv 0)) pad_nil)) (pd_one (pd_cmp (ox_eq hr.units) (pd_v (pv 0)) (pd_v (pv 1)) (nomark _)))))) psd_nil)
      (psd_cons (psd_if (pb_v (pd_isi (T := .str) (pe_callB call_isi (by rfl) T.b_isinstance (by decide +kernel) (pa_cons (pd_v (pv 1)) (pa_cons (pe_bltn (v := .ty "str") (u := .type "str") (by rfl) T.b_str (by decide +kernel) rfl) pa_nil))))) (psd_one (psd_ret (pd_and (pd_isi (T := .str) (pe_callB call_isi (by rfl) T.b_isinstance (by decide +kernel) (pa_cons (pd_v (pv 0)) (pa_cons (pe_bltn (v := .ty "str") (u := .type "str") (by rfl) T.b_str (by decide +kernel) rfl) pa_nil)))) (pd_one (pd_cmp (ox_eq hr.units) (pd_v (pv 0)) (pd_v (pv 1)) (nomark _)))))) psd_nil)
      (psd_cons (psd_if (pb_cmp (ox_ne hr.units) (pd_isi (T := .list) (pe_callB call_isi (by rfl) T.b_isinstance (by decide +kernel) (pa_cons (pd_v (pv 1)) (pa_cons (pe_bltn (v := .ty "list") (u := .type "list") (by rfl) T.b_list (by decide +kernel) rfl) pa_nil)))) (pd_isi (T := .list) (pe_callB call_isi (by rfl) T.b_isinstance (by decide +kernel) (pa_cons (pd_v (pv 0)) (pa_cons (pe_bltn (v := .ty "list") (u := .type "list") (by rfl) T.b_list (by decide +kernel) rfl) pa_nil)))) (nomark _)) (psd_one (psd_ret pd_bl)) psd_nil)
      (psd_cons (psd_if (pb_cmp (ox_ne hr.units) (pd_isi (T := .tuple) (pe_callB call_isi (by rfl) T.b_isinstance (by decide +kernel) (pa_cons (pd_v (pv 1)) (pa_cons (pe_bltn (v := .ty "tuple") (u := .type "tuple") (by rfl) T.b_tuple (by decide +kernel) rfl) pa_nil)))) (pd_isi (T := .tuple) (pe_callB call_isi (by rfl) T.b_isinstance (by decide +kernel) (pa_cons (pd_v (pv 0)) (pa_cons (pe_bltn (v := .ty "tuple") (u := .type "tuple") (by rfl) T.b_tuple (by decide +kernel) rfl) pa_nil)))) (nomark _)) (psd_one (psd_ret pd_bl)) psd_nil)
      (psd_cons (psd_if (pb_w (pw_o (pb_not (pb_v (pd_isiT (T0 := .list) (Ts := [.tuple]) (pe_callB call_isiT (by rfl) T.b_isinstance (by decide +kernel) (pa_cons (pd_v (pv 0)) (pa_cons (pe_tup (pa_cons (pe_bltn (v := .ty "list") (u := .type "list") (by rfl) T.b_list (by decide +kernel) rfl) (pa_cons (pe_bltn (v := .ty "tuple") (u := .type "tuple") (by rfl) T.b_tuple (by decide +kernel) rfl) pa_nil))) pa_nil))) (fun _ _ _ q => q) (by decide)))) (pw_o1 (pb_cmp (ox_ne hr.units) (pd_blt cx_len (by rfl) T.b_len boot_len (pad_cons (pd_v (pv 0)) pad_nil)) (pd_blt cx_len (by rfl) T.b_len boot_len (pad_cons (pd_v (pv 1)) pad_nil)) (nomark _))))) (psd_one (psd_ret pd_bl)) psd_nil)
      (psd_one (psd_ret (pd_blt (cx_all rfl) (by rfl) T.b_all (by decide +kernel) (pad_cons (pd_fr (pc_lc rfl sc__law_same.nd (pid_zip (RZ.pi_zipA (by rfl) T.b_zip (pa_cons (pd_v (pv 0)) (pa_cons (pd_v (pv 1)) pa_nil)))) (blkOk_by (own := [("_law_one", 2), ("_law_other", 3)]) (N := N__law_same) (sc := defScope s__law_same) (by decide +kernel)) (fun _ _ _ _ _ _ => (pgd_tp rfl (pgsd_cons (pgd_nm (i := 2) sc__law_same.nd rfl (.inl rfl)) (pgsd_cons (pgd_nm (i := 3) sc__law_same.nd rfl (.inl rfl)) pgsd_nil)) rfl)) (fun _ _ _ _ _ _ => ptsd_nil) (fun _ _ _ _ _ _ => (pd_cl [] IH (by simp) DH.takes0N hr (by rfl) (pad_cons (pd_v (pv 2)) (pad_cons (pd_v (pv 3)) pad_nil)))))) pad_nil)))))))))))
/-! _law_mixed -/
abbrev s__law_mixed : Stmt := topS 43
abbrev N__law_mixed : List Str := ["_law_number_here", "_law_turn", "_law_base", "_law_more"]
theorem sc__law_mixed : FnScope N__law_mixed ["_law_number_here", "_law_turn"] (defScope s__law_mixed) := ⟨rfl, rfl, rfl, by decide +kernel, rfl, by decide +kernel, by decide +kernel⟩
def f__law_mixed : SF :=
  (seqS (asg 2 (op2 modD (op2 addD (op2 addD (op2 mulD (vr 0) (cst (.int 7919))) (op2 mulD (vr 1) (cst (.int 104729)))) (cst (.int 17))) (cst (.int 2147483647))))
  (seqS (asg 3 (op2 addD (op2 mulD (vr 1) (cst (.int 31337))) (op2 modD (op2 divD (vr 0) (cst (.int 1009))) (cst (.int 65521)))))
  (retS (op2 divD (op2 modD (op2 addD (op2 mulD (vr 2) (op2 addD (op2 modD (vr 2) (cst (.int 9973))) (cst (.int 1)))) (vr 3)) (cst (.int 998244353))) (cst (.int 11))))))
def F__law_mixed : List D → R := runD [.p, .p] 4 f__law_mixed
theorem ok__law_mixed {P : Program} {w : World} {K : PySem.W.Frag} {mg : MG} {base : Heap} (T : Tx K mg)  (Dk : DefK K mg "_law_mixed" (He.ga K "_law_mixed") s__law_mixed ["_law_number_here", "_law_turn"] [[]]) : DefOk P w K mg base 1 "_law_mixed" (He.ga K "_law_mixed") ["_law_number_here", "_law_turn"] [[]] (spD K mg [.p, .p] F__law_mixed) :=
  Dk.of (k := 0) sc__law_mixed rfl fun cdv A outer s H E B W hr tk => by
    exact (psd_cons (psd_set (i := 2) sc__law_mixed.nd rfl (.inl rfl) (pd_bin ox_mod (pd_bin ox_add (pd_bin ox_add (pd_bin ox_mul (pd_v (pv 0)) pd_int) (pd_bin ox_mul (pd_v (pv 1)) pd_int)) pd_int) pd_int))
      (psd_cons (psd_set (i := 3) sc__law_mixed.nd rfl (.inl rfl) (pd_bin ox_add (pd_bin ox_mul (pd_v (pv 1)) pd_int) (pd_bin ox_mod (pd_bin ox_div (pd_v (pv 0)) pd_int) pd_int)))
      (psd_one (psd_ret (pd_bin ox_div (pd_bin ox_mod (pd_bin ox_add (pd_bin ox_mul (pd_v (pv 2)) (pd_bin ox_add (pd_bin ox_mod (pd_v (pv 2)) pd_int) pd_int)) (pd_v (pv 3))) pd_int) pd_int)))))
/-! _law_take -/
abbrev s__law_take : Stmt := topS 44
abbrev N__law_take : List Str := ["_law_box_here", "_law_many", "_law_rest", "_law_cell"]
theorem sc__law_take : FnScope N__law_take ["_law_box_here", "_law_many"] (defScope s__law_take) := ⟨rfl, rfl, rfl, by decide +kernel, rfl, by decide +kernel, by decide +kernel⟩
def f__law_take : SF :=
  (seqS (setS 0 (cst (.int 3)) (op2 addD (op2 ixD (vr 0) (cst (.int 3))) (cst (.int 1))))
  (seqS (ifS (bF (op2 gtD (op2 ixD (vr 0) (cst (.int 2))) (cst (.int 0)))) (seqS (asg 2 (op2 ixD (vr 0) (cst (.int 2))))
  (seqS (setS 0 (cst (.int 2)) (op2 divD (vr 2) (vr 1)))
  (retS (op2 modD (vr 2) (vr 1))))) nxS)
  (seqS (ifS (bF (op2 geD (op2 ixD (vr 0) (cst (.int 1))) (bltF (one lenD) (consF (op2 ixD (vr 0) (cst (.int 0))) nilF)))) (retS (op2 modD (callF [.p, .p] F__law_mixed [] (consF (op2 ixD (vr 0) (cst (.int 4))) (consF (op2 ixD (vr 0) (cst (.int 3))) nilF))) (vr 1))) nxS)
  (seqS (asg 3 (op2 ixD (op2 ixD (vr 0) (cst (.int 0))) (op2 ixD (vr 0) (cst (.int 1)))))
  (seqS (setS 0 (cst (.int 1)) (op2 addD (op2 ixD (vr 0) (cst (.int 1))) (cst (.int 1))))
  (seqS (ifS (bF (op2 ltD (vr 3) (op2 powD (cst (.int 10)) (cst (.int 18))))) (retS (op2 modD (callF [.p, .p] F__law_mixed [] (consF (op2 addD (vr 3) (op2 ixD (vr 0) (cst (.int 4)))) (consF (op2 ixD (vr 0) (cst (.int 3))) nilF))) (vr 1))) nxS)
  (seqS (setS 0 (cst (.int 2)) (op2 divD (vr 3) (vr 1)))
  (retS (op2 modD (vr 3) (vr 1))))))))))
def F__law_take : D → List D → R := runO [.p] 4 f__law_take
theorem ok__law_take {P : Program} {w : World} {K : PySem.W.Frag} {mg : MG} {base : Heap} (T : Tx K mg) (G__law_mixed : DefOk P w K mg base 1 "_law_mixed" (He.ga K "_law_mixed") ["_law_number_here", "_law_turn"] [[]] (spD K mg [.p, .p] F__law_mixed)) (Dk : DefK K mg "_law_take" (He.ga K "_law_take") s__law_take ["_law_box_here", "_law_many"] [[]]) : DefOk P w K mg base 2 "_law_take" (He.ga K "_law_take") ["_law_box_here", "_law_many"] [[]] (spO K mg [.p] F__law_take) :=
  Dk.ofO (k := 1) sc__law_take rfl fun cdv A outer s H E B W hr tk => by
    exact (psd_cons (psd_seti (ps_asg (pd_bin ox_add (pd_ix ix_data (pd_v (pv 0)) pd_int (fun _ _ => rfl)) pd_int) (pg_sub (pv 0) pd_int set_list)))
      (psd_cons (psd_if (pb_cmp ox_gt (pd_ix ix_data (pd_v (pv 0)) pd_int (fun _ _ => rfl)) pd_int (nomark _)) (psd_cons (psd_set (i := 2) sc__law_take.nd rfl (.inl rfl) (pd_ix ix_data (pd_v (pv 0)) pd_int (fun _ _ => rfl)))
      (psd_cons (psd_seti (ps_asg (pd_bin ox_div (pd_v (pv 2)) (pd_v (pv 1))) (pg_sub (pv 0) pd_int set_list)))
      (psd_one (psd_ret (pd_bin ox_mod (pd_v (pv 2)) (pd_v (pv 1))))))) psd_nil)
      (psd_cons (psd_if (pb_cmp ox_ge (pd_ix ix_data (pd_v (pv 0)) pd_int (fun _ _ => rfl)) (pd_blt cx_len (by rfl) T.b_len boot_len (pad_cons (pd_ix ix_data (pd_v (pv 0)) pd_int (fun _ _ => rfl)) pad_nil)) (nomark _)) (psd_one (psd_ret (pd_bin ox_mod (pd_cl [] G__law_mixed (by simp) tk (hr.mono (by omega)) (by rfl) (pad_cons (pd_ix ix_data (pd_v (pv 0)) pd_int (fun _ _ => rfl)) (pad_cons (pd_ix ix_data (pd_v (pv 0)) pd_int (fun _ _ => rfl)) pad_nil))) (pd_v (pv 1))))) psd_nil)
      (psd_cons (psd_set (i := 3) sc__law_take.nd rfl (.inl rfl) (pd_ix ix_data (pd_ix ix_data (pd_v (pv 0)) pd_int (fun _ _ => rfl)) (pd_ix ix_data (pd_v (pv 0)) pd_int (fun _ _ => rfl)) (fun _ _ => rfl)))
      (psd_cons (psd_seti (ps_asg (pd_bin ox_add (pd_ix ix_data (pd_v (pv 0)) pd_int (fun _ _ => rfl)) pd_int) (pg_sub (pv 0) pd_int set_list)))
      (psd_cons (psd_if (pb_cmp ox_lt (pd_v (pv 3)) (pd_bin ox_pow pd_int pd_int) (nomark _)) (psd_one (psd_ret (pd_bin ox_mod (pd_cl [] G__law_mixed (by simp) tk (hr.mono (by omega)) (by rfl) (pad_cons (pd_bin ox_add (pd_v (pv 3)) (pd_ix ix_data (pd_v (pv 0)) pd_int (fun _ _ => rfl))) (pad_cons (pd_ix ix_data (pd_v (pv 0)) pd_int (fun _ _ => rfl)) pad_nil))) (pd_v (pv 1))))) psd_nil)
      (psd_cons (psd_seti (ps_asg (pd_bin ox_div (pd_v (pv 3)) (pd_v (pv 1))) (pg_sub (pv 0) pd_int set_list)))
      (psd_one (psd_ret (pd_bin ox_mod (pd_v (pv 3)) (pd_v (pv 1))))))))))))
/-! _law_number -/
abbrev s__law_number : Stmt := topS 48
abbrev N__law_number : List Str := ["_law_box_here"]
theorem sc__law_number : FnScope N__law_number ["_law_box_here"] (defScope s__law_number) := ⟨rfl, rfl, rfl, by decide +kernel, rfl, by decide +kernel, by decide +kernel⟩
def f__law_number : SF :=
  (retS (op2 ixD (frC (lstC (consF (op1 negD (op2 powD (cst (.int 10)) (cst (.int 30)))) (consF (op1 negD (cst (.int 1))) (consF (cst (.int 0)) (consF (cst (.int 1)) (consF (cst (.int 2)) (consF (cst (.int 9)) (consF (cst (.int 10)) (consF (cst (.int 15)) (consF (cst (.int 16)) (consF (cst (.int 200)) (consF (cst (.int 999)) (consF (cst (.int 1000)) (consF (op2 powD (cst (.int 10)) (cst (.int 30))) nilF))))))))))))))) (callO [.p] F__law_take [] (consF (vr 0) (consF (cst (.int 13)) nilF)))))
def F__law_number : D → List D → R := runO [] 1 f__law_number
theorem ok__law_number {P : Program} {w : World} {K : PySem.W.Frag} {mg : MG} {base : Heap} (T : Tx K mg) (G__law_take : DefOk P w K mg base 2 "_law_take" (He.ga K "_law_take") ["_law_box_here", "_law_many"] [[]] (spO K mg [.p] F__law_take)) (Dk : DefK K mg "_law_number" (He.ga K "_law_number") s__law_number ["_law_box_here"] [[]]) : DefOk P w K mg base 3 "_law_number" (He.ga K "_law_number") ["_law_box_here"] [[]] (spO K mg [] F__law_number) :=
  Dk.ofO (k := 2) sc__law_number rfl fun cdv A outer s H E B W hr tk => by
    exact (psd_one (psd_ret (pd_ix ix_data (pd_fr (pc_lst (pad_cons (pd_neg (pd_bin ox_pow pd_int pd_int)) (pad_cons (pd_neg pd_int) (pad_cons pd_int (pad_cons pd_int (pad_cons pd_int (pad_cons pd_int (pad_cons pd_int (pad_cons pd_int (pad_cons pd_int (pad_cons pd_int (pad_cons pd_int (pad_cons pd_int (pad_cons (pd_bin ox_pow pd_int pd_int) pad_nil))))))))))))))) (pd_clO [] G__law_take (by simp) tk (hr.mono (by omega)) (by rfl) (pad_cons (pd_v (pv 0)) (pad_cons pd_int pad_nil))) (fun _ _ => rfl))))
/-! _law_clock -/
abbrev s__law_clock : Stmt := topS 47
abbrev N__law_clock : List Str := ["_law_box_here"]
theorem sc__law_clock : FnScope N__law_clock ["_law_box_here"] (defScope s__law_clock) := ⟨rfl, rfl, rfl, by decide +kernel, rfl, by decide +kernel, by decide +kernel⟩
def f__law_clock : SF :=
  (retS (op2 addD (cst (.int 3)) (op2 mulD (cst (.int 2)) (callO [.p] F__law_take [] (consF (vr 0) (consF (cst (.int 7)) nilF))))))
def F__law_clock : D → List D → R := runO [] 1 f__law_clock
theorem ok__law_clock {P : Program} {w : World} {K : PySem.W.Frag} {mg : MG} {base : Heap} (T : Tx K mg) (G__law_take : DefOk P w K mg base 2 "_law_take" (He.ga K "_law_take") ["_law_box_here", "_law_many"] [[]] (spO K mg [.p] F__law_take)) (Dk : DefK K mg "_law_clock" (He.ga K "_law_clock") s__law_clock ["_law_box_here"] [[]]) : DefOk P w K mg base 3 "_law_clock" (He.ga K "_law_clock") ["_law_box_here"] [[]] (spO K mg [] F__law_clock) :=
  Dk.ofO (k := 2) sc__law_clock rfl fun cdv A outer s H E B W hr tk => by
    exact (psd_one (psd_ret (pd_bin ox_add pd_int (pd_bin ox_mul pd_int (pd_clO [] G__law_take (by simp) tk (hr.mono (by omega)) (by rfl) (pad_cons (pd_v (pv 0)) (pad_cons pd_int pad_nil)))))))
/-! _law_square -/
abbrev s__law_square : Stmt := topS 49
abbrev N__law_square : List Str := ["_law_box_here", "_law_clock_here", "_law_land", "_law_untold", "_law_calm", "_law_old", "_law_way"]
theorem sc__law_square : FnScope N__law_square ["_law_box_here", "_law_clock_here", "_law_land", "_law_untold", "_law_calm", "_law_old"] (defScope s__law_square) := ⟨rfl, rfl, rfl, by decide +kernel, rfl, by decide +kernel, by decide +kernel⟩
def f__law_square : SF :=
  (seqS (asg 6 (callO [.p] F__law_take [] (consF (vr 0) (consF (cst (.int 12)) nilF))))
  (seqS (ifS (bF (op2 ltD (vr 6) (vr 2))) (retS (op1 negD (cst (.int 1)))) nxS)
  (seqS (ifS (bF (op2 ltD (vr 6) (op2 addD (vr 2) (vr 3)))) (retS (op1 negD (cst (.int 2)))) nxS)
  (seqS (ifS (andB (bF (op2 gtD (vr 4) (cst (.int 0)))) (andB (bF (op2 geD (vr 5) (cst (.int 0)))) (bF (op2 gtD (callO [.p] F__law_take [] (consF (vr 0) (consF (cst (.int 4)) nilF))) (cst (.int 0)))))) (retS (op2 modD (op2 subD (op2 addD (vr 5) (callO [.p] F__law_take [] (consF (vr 0) (consF (op2 addD (op2 mulD (cst (.int 2)) (vr 4)) (cst (.int 1))) nilF)))) (vr 4)) (vr 1))) nxS)
  (retS (callO [.p] F__law_take [] (consF (vr 0) (consF (vr 1) nilF))))))))
def F__law_square : D → List D → R := runO [.p, .p, .p, .p, .p] 7 f__law_square
theorem ok__law_square {P : Program} {w : World} {K : PySem.W.Frag} {mg : MG} {base : Heap} (T : Tx K mg) (G__law_take : DefOk P w K mg base 2 "_law_take" (He.ga K "_law_take") ["_law_box_here", "_law_many"] [[]] (spO K mg [.p] F__law_take)) (Dk : DefK K mg "_law_square" (He.ga K "_law_square") s__law_square ["_law_box_here", "_law_clock_here", "_law_land", "_law_untold", "_law_calm", "_law_old"] [[]]) : DefOk P w K mg base 3 "_law_square" (He.ga K "_law_square") ["_law_box_here", "_law_clock_here", "_law_land", "_law_untold", "_law_calm", "_law_old"] [[]] (spO K mg [.p, .p, .p, .p, .p] F__law_square) :=
  Dk.ofO (k := 2) sc__law_square rfl fun cdv A outer s H E B W hr tk => by
    exact (psd_cons (psd_set (i := 6) sc__law_square.nd rfl (.inl rfl) (pd_clO [] G__law_take (by simp) tk (hr.mono (by omega)) (by rfl) (pad_cons (pd_v (pv 0)) (pad_cons pd_int pad_nil))))
      (psd_cons (psd_if (pb_cmp ox_lt (pd_v (pv 6)) (pd_v (pv 2)) (nomark _)) (psd_one (psd_ret (pd_neg pd_int))) psd_nil)
      (psd_cons (psd_if (pb_cmp ox_lt (pd_v (pv 6)) (pd_bin ox_add (pd_v (pv 2)) (pd_v (pv 3))) (nomark _)) (psd_one (psd_ret (pd_neg pd_int))) psd_nil)
      (psd_cons (psd_if (pb_w (pw_a (pb_cmp ox_gt (pd_v (pv 4)) pd_int (nomark _)) (pw_a (pb_cmp ox_ge (pd_v (pv 5)) pd_int (nomark _)) (pw_a1 (pb_cmp ox_gt (pd_clO [] G__law_take (by simp) tk (hr.mono (by omega)) (by rfl) (pad_cons (pd_v (pv 0)) (pad_cons pd_int pad_nil))) pd_int (nomark _)))))) (psd_one (psd_ret (pd_bin ox_mod (pd_bin ox_sub (pd_bin ox_add (pd_v (pv 5)) (pd_clO [] G__law_take (by simp) tk (hr.mono (by omega)) (by rfl) (pad_cons (pd_v (pv 0)) (pad_cons (pd_bin ox_add (pd_bin ox_mul pd_int (pd_v (pv 4))) pd_int) pad_nil)))) (pd_v (pv 4))) (pd_v (pv 1))))) psd_nil)
      (psd_one (psd_ret (pd_clO [] G__law_take (by simp) tk (hr.mono (by omega)) (by rfl) (pad_cons (pd_v (pv 0)) (pad_cons (pd_v (pv 1)) pad_nil)))))))))
/-! _law_near_hour -/
abbrev s__law_near_hour : Stmt := topS 50
abbrev N__law_near_hour : List Str := ["_law_rows", "_law_line"]
theorem sc__law_near_hour : FnScope N__law_near_hour ["_law_rows", "_law_line"] (defScope s__law_near_hour) := ⟨rfl, rfl, rfl, by decide +kernel, rfl, by decide +kernel, by decide +kernel⟩
def f__law_near_hour : SF :=
  (seqS (ifS (andB (bF (op2 neD (vr 1) (frC (lstC nilF)))) (bF (op2 geD (op2 ixD (vr 1) (op1 negD (cst (.int 1)))) (cst (.int 0))))) (retS (op2 ixD (vr 1) (op1 negD (cst (.int 1))))) nxS)
  (retS (ifF (bF (op2 neD (vr 0) (frC (lstC nilF)))) (op2 ixD (op2 ixD (vr 0) (op1 negD (cst (.int 1)))) (bltF (one lenD) (consF (vr 1) nilF))) (cst (.int 0)))))
def F__law_near_hour : List D → R := runD [.p, .p] 2 f__law_near_hour
theorem ok__law_near_hour {P : Program} {w : World} {K : PySem.W.Frag} {mg : MG} {base : Heap} (T : Tx K mg)  (Dk : DefK K mg "_law_near_hour" (He.ga K "_law_near_hour") s__law_near_hour ["_law_rows", "_law_line"] [[]]) : DefOk P w K mg base 1 "_law_near_hour" (He.ga K "_law_near_hour") ["_law_rows", "_law_line"] [[]] (spD K mg [.p, .p] F__law_near_hour) :=
  Dk.of (k := 0) sc__law_near_hour rfl fun cdv A outer s H E B W hr tk => by
    exact (psd_cons (psd_if (pb_w (pw_a (pb_cmp (ox_ne hr.units) (pd_v (pv 1)) (pd_fr (pc_lst pad_nil)) (nomark _)) (pw_a1 (pb_cmp ox_ge (pd_ix ix_data (pd_v (pv 1)) (pd_neg pd_int) (fun _ _ => rfl)) pd_int (nomark _))))) (psd_one (psd_ret (pd_ix ix_data (pd_v (pv 1)) (pd_neg pd_int) (fun _ _ => rfl)))) psd_nil)
      (psd_one (psd_ret (pd_if (pb_cmp (ox_ne hr.units) (pd_v (pv 0)) (pd_fr (pc_lst pad_nil)) (nomark _)) (pd_ix ix_data (pd_ix ix_data (pd_v (pv 0)) (pd_neg pd_int) (fun _ _ => rfl)) (pd_blt cx_len (by rfl) T.b_len boot_len (pad_cons (pd_v (pv 1)) pad_nil)) (fun _ _ => rfl)) pd_int))))
/-! _law_chart -/
abbrev s__law_chart : Stmt := topS 51
abbrev N__law_chart : List Str := ["_law_box_here", "_law_most", "_law_untold", "_law_clock_here", "_law_high", "_law_wide", "_law_land", "_law_calm", "_law_rows", "_law_row", "_law_line", "_law_column"]
theorem sc__law_chart : FnScope N__law_chart ["_law_box_here", "_law_most", "_law_untold"] (defScope s__law_chart) := ⟨rfl, rfl, rfl, by decide +kernel, rfl, by decide +kernel, by decide +kernel⟩
def B__law_chart_1 : SF :=
  (appS 10 (callO [.p, .p, .p, .p, .p] F__law_square [] (consF (vr 0) (consF (vr 3) (consF (vr 6) (consF (vr 2) (consF (vr 7) (consF (callB [.p, .p] F__law_near_hour [] (consF (vr 8) (consF (vr 10) nilF))) nilF))))))))
def L__law_chart_1 : SF :=
  (forS (.nm 11) (srcR1 (vr 5)) B__law_chart_1)
def B__law_chart_2 : SF :=
  (seqS (asgO 10 (lstC nilF))
  (seqS L__law_chart_1
  (appS 8 (bltF (one tupleD) (consF (vr 10) nilF)))))
def L__law_chart_2 : SF :=
  (forS (.nm 9) (srcR1 (vr 4)) B__law_chart_2)
def f__law_chart : SF :=
  (seqS (asg 3 (callO [] F__law_clock [] (consF (vr 0) nilF)))
  (seqS (asg 4 (op2 addD (cst (.int 1)) (callO [.p] F__law_take [] (consF (vr 0) (consF (vr 1) nilF)))))
  (seqS (asg 5 (op2 addD (cst (.int 1)) (callO [.p] F__law_take [] (consF (vr 0) (consF (vr 1) nilF)))))
  (seqS (asg 6 (op2 ixD (frC (lstC (consF (cst (.int 0)) (consF (cst (.int 0)) (consF (cst (.int 1)) (consF (cst (.int 3)) (consF (cst (.int 5)) nilF))))))) (callO [.p] F__law_take [] (consF (vr 0) (consF (cst (.int 5)) nilF)))))
  (seqS (asg 7 (op2 ixD (frC (lstC (consF (cst (.int 0)) (consF (cst (.int 1)) (consF (op2 divD (vr 3) (cst (.int 3))) nilF))))) (callO [.p] F__law_take [] (consF (vr 0) (consF (cst (.int 3)) nilF)))))
  (seqS (asgO 8 (lstC nilF))
  (seqS L__law_chart_2
  (retS (tupF (consF (vr 3) (consF (bltF (one tupleD) (consF (vr 8) nilF)) nilF)))))))))))
def F__law_chart : D → List D → R := runO [.p, .p] 12 f__law_chart
theorem ok__law_chart {P : Program} {w : World} {K : PySem.W.Frag} {mg : MG} {base : Heap} (T : Tx K mg) (G__law_take : DefOk P w K mg base 2 "_law_take" (He.ga K "_law_take") ["_law_box_here", "_law_many"] [[]] (spO K mg [.p] F__law_take)) (G__law_clock : DefOk P w K mg base 3 "_law_clock" (He.ga K "_law_clock") ["_law_box_here"] [[]] (spO K mg [] F__law_clock)) (G__law_square : DefOk P w K mg base 3 "_law_square" (He.ga K "_law_square") ["_law_box_here", "_law_clock_here", "_law_land", "_law_untold", "_law_calm", "_law_old"] [[]] (spO K mg [.p, .p, .p, .p, .p] F__law_square)) (G__law_near_hour : DefOk P w K mg base 1 "_law_near_hour" (He.ga K "_law_near_hour") ["_law_rows", "_law_line"] [[]] (spD K mg [.p, .p] F__law_near_hour)) (Dk : DefK K mg "_law_chart" (He.ga K "_law_chart") s__law_chart ["_law_box_here", "_law_most", "_law_untold"] [[]]) : DefOk P w K mg base 4 "_law_chart" (He.ga K "_law_chart") ["_law_box_here", "_law_most", "_law_untold"] [[]] (spO K mg [.p, .p] F__law_chart) :=
  Dk.ofO (k := 3) sc__law_chart rfl fun cdv A outer s H E B W hr tk => by
    exact (psd_cons (psd_set (i := 3) sc__law_chart.nd rfl (.inl rfl) (pd_clO [] G__law_clock (by simp) tk (hr.mono (by omega)) (by rfl) (pad_cons (pd_v (pv 0)) pad_nil)))
      (psd_cons (psd_set (i := 4) sc__law_chart.nd rfl (.inl rfl) (pd_bin ox_add pd_int (pd_clO [] G__law_take (by simp) tk (hr.mono (by omega)) (by rfl) (pad_cons (pd_v (pv 0)) (pad_cons (pd_v (pv 1)) pad_nil)))))
      (psd_cons (psd_set (i := 5) sc__law_chart.nd rfl (.inl rfl) (pd_bin ox_add pd_int (pd_clO [] G__law_take (by simp) tk (hr.mono (by omega)) (by rfl) (pad_cons (pd_v (pv 0)) (pad_cons (pd_v (pv 1)) pad_nil)))))
      (psd_cons (psd_set (i := 6) sc__law_chart.nd rfl (.inl rfl) (pd_ix ix_data (pd_fr (pc_lst (pad_cons pd_int (pad_cons pd_int (pad_cons pd_int (pad_cons pd_int (pad_cons pd_int pad_nil))))))) (pd_clO [] G__law_take (by simp) tk (hr.mono (by omega)) (by rfl) (pad_cons (pd_v (pv 0)) (pad_cons pd_int pad_nil))) (fun _ _ => rfl)))
      (psd_cons (psd_set (i := 7) sc__law_chart.nd rfl (.inl rfl) (pd_ix ix_data (pd_fr (pc_lst (pad_cons pd_int (pad_cons pd_int (pad_cons (pd_bin ox_div (pd_v (pv 3)) pd_int) pad_nil))))) (pd_clO [] G__law_take (by simp) tk (hr.mono (by omega)) (by rfl) (pad_cons (pd_v (pv 0)) (pad_cons pd_int pad_nil))) (fun _ _ => rfl)))
      (psd_cons (psd_setO (i := 8) sc__law_chart.nd rfl (.inl rfl) (pc_lst pad_nil))
      (psd_cons (psd_for (passes_of rfl) rfl (pid_r1 (by rfl) T.b_range (pd_v (pv 4))) (pgd_nm (i := 9) sc__law_chart.nd rfl (.inl rfl)) (psd_cons (psd_setO (i := 10) sc__law_chart.nd rfl (.inl rfl) (pc_lst pad_nil))
      (psd_cons (psd_for (passes_of rfl) rfl (pid_r1 (by rfl) T.b_range (pd_v (pv 5))) (pgd_nm (i := 11) sc__law_chart.nd rfl (.inl rfl)) (psd_one (psd_app (i := 10) (pe_bm PySem.F.plainAttrs_list PySem.F.slot_list_append PySem.F.type_list_append mt_append (pv 10) (pa_cons (pd_clO [] G__law_square (by simp) tk (hr.mono (by omega)) (by rfl) (pad_cons (pd_v (pv 0)) (pad_cons (pd_v (pv 3)) (pad_cons (pd_v (pv 6)) (pad_cons (pd_v (pv 2)) (pad_cons (pd_v (pv 7)) (pad_cons (pd_clB [] G__law_near_hour (by simp) tk (hr.mono (by omega)) (by rfl) (pad_cons (pd_v (pv 8)) (pad_cons (pd_v (pv 10)) pad_nil))) pad_nil))))))) pa_nil)))))
      (psd_one (psd_app (i := 8) (pe_bm PySem.F.plainAttrs_list PySem.F.slot_list_append PySem.F.type_list_append mt_append (pv 8) (pa_cons (pd_bty cx_tuple (by rfl) T.b_tuple (by decide +kernel) (pad_cons (pd_v (pv 10)) pad_nil)) pa_nil)))))))
      (psd_one (psd_ret (pd_tup (pad_cons (pd_v (pv 3)) (pad_cons (pd_bty cx_tuple (by rfl) T.b_tuple (by decide +kernel) (pad_cons (pd_v (pv 8)) pad_nil)) pad_nil))))))))))))
/-! _law_what -/
abbrev s__law_what : Stmt := topS 52
abbrev N__law_what : List Str := ["_law_chart_here", "_law_square_here", "_law_row", "_law_column"]
theorem sc__law_what : FnScope N__law_what ["_law_chart_here", "_law_square_here"] (defScope s__law_what) := ⟨rfl, rfl, rfl, by decide +kernel, rfl, by decide +kernel, by decide +kernel⟩
def f__law_what : SF :=
  (seqS (asgT (.tp [(.nm 2), (.nm 3)]) (vr 1))
  (seqS (ifS (andB (bF (chF leD ltD (cst (.int 0)) (vr 2) (bltF (one lenD) (consF (op2 ixD (vr 0) (cst (.int 1))) nilF)))) (bF (chF leD ltD (cst (.int 0)) (vr 3) (bltF (one lenD) (consF (op2 ixD (op2 ixD (vr 0) (cst (.int 1))) (cst (.int 0))) nilF))))) (retS (op2 ixD (op2 ixD (op2 ixD (vr 0) (cst (.int 1))) (vr 2)) (vr 3))) nxS)
  (retS (op1 negD (cst (.int 1))))))
def F__law_what : List D → R := runD [.p, .p] 4 f__law_what
theorem ok__law_what {P : Program} {w : World} {K : PySem.W.Frag} {mg : MG} {base : Heap} (T : Tx K mg)  (Dk : DefK K mg "_law_what" (He.ga K "_law_what") s__law_what ["_law_chart_here", "_law_square_here"] [[]]) : DefOk P w K mg base 1 "_law_what" (He.ga K "_law_what") ["_law_chart_here", "_law_square_here"] [[]] (spD K mg [.p, .p] F__law_what) :=
  Dk.of (k := 0) sc__law_what rfl fun cdv A outer s H E B W hr tk => by
    exact (psd_cons (psd_asgT (pd_v (pv 1)) (pgd_tp rfl (pgsd_cons (pgd_nm (i := 2) sc__law_what.nd rfl (.inl rfl)) (pgsd_cons (pgd_nm (i := 3) sc__law_what.nd rfl (.inl rfl)) pgsd_nil)) rfl))
      (psd_cons (psd_if (pb_w (pw_a (pb_ch ox_le ox_lt pd_int (pd_v (pv 2)) (pd_blt cx_len (by rfl) T.b_len boot_len (pad_cons (pd_ix ix_data (pd_v (pv 0)) pd_int (fun _ _ => rfl)) pad_nil))) (pw_a1 (pb_ch ox_le ox_lt pd_int (pd_v (pv 3)) (pd_blt cx_len (by rfl) T.b_len boot_len (pad_cons (pd_ix ix_data (pd_ix ix_data (pd_v (pv 0)) pd_int (fun _ _ => rfl)) pd_int (fun _ _ => rfl)) pad_nil)))))) (psd_one (psd_ret (pd_ix ix_data (pd_ix ix_data (pd_ix ix_data (pd_v (pv 0)) pd_int (fun _ _ => rfl)) (pd_v (pv 2)) (fun _ _ => rfl)) (pd_v (pv 3)) (fun _ _ => rfl)))) psd_nil)
      (psd_one (psd_ret (pd_neg pd_int)))))
/-! _law_all -/
abbrev s__law_all : Stmt := topS 53
abbrev N__law_all : List Str := ["_law_chart_here", "_law_wide", "_law_k"]
theorem sc__law_all : FnScope N__law_all ["_law_chart_here"] (defScope s__law_all) := ⟨rfl, rfl, rfl, by decide +kernel, rfl, by decide +kernel, by decide +kernel⟩
def E__law_all_1 : EF :=
  (tupF (consF (op2 divD (vr 2) (vr 1)) (consF (op2 modD (vr 2) (vr 1)) nilF)))
def C__law_all_1 : CF :=
  (compC (.nm 2) (List.map (·.2) ([("_law_k", 2)] : List (Str × Nat))) (srcR1 (op2 mulD (vr 1) (bltF (one lenD) (consF (op2 ixD (vr 0) (cst (.int 1))) nilF)))) yes E__law_all_1)
def f__law_all : SF :=
  (seqS (asg 1 (bltF (one lenD) (consF (op2 ixD (op2 ixD (vr 0) (cst (.int 1))) (cst (.int 0))) nilF)))
  (retC C__law_all_1))
def F__law_all : List D → R := runD [.p] 3 f__law_all
theorem ok__law_all {P : Program} {w : World} {K : PySem.W.Frag} {mg : MG} {base : Heap} (T : Tx K mg)  (Dk : DefK K mg "_law_all" (He.ga K "_law_all") s__law_all ["_law_chart_here"] [[]]) : DefOk P w K mg base 1 "_law_all" (He.ga K "_law_all") ["_law_chart_here"] [[]] (spD K mg [.p] F__law_all) :=
  Dk.of (k := 0) sc__law_all rfl fun cdv A outer s H E B W hr tk => by
    exact (psd_cons (psd_set (i := 1) sc__law_all.nd rfl (.inr rfl) (pd_blt cx_len (by rfl) T.b_len boot_len (pad_cons (pd_ix ix_data (pd_ix ix_data (pd_v (pv 0)) pd_int (fun _ _ => rfl)) pd_int (fun _ _ => rfl)) pad_nil)))
      (psd_one (psd_retC (pc_lc rfl sc__law_all.nd (pid_r1 (by rfl) T.b_range (pd_bin ox_mul (pd_v (pv 1)) (pd_blt cx_len (by rfl) T.b_len boot_len (pad_cons (pd_ix ix_data (pd_v (pv 0)) pd_int (fun _ _ => rfl)) pad_nil)))) (blkOk_by (own := [("_law_k", 2)]) (N := N__law_all) (sc := defScope s__law_all) (by decide +kernel)) (fun _ _ _ _ _ _ => (pgd_nm (i := 2) sc__law_all.nd rfl (.inl rfl))) (fun _ _ _ _ _ _ => ptsd_nil) (fun _ _ _ _ _ _ => (pd_tup (pad_cons (pd_bin ox_div (pd_v (pv 2)) (pd_v (pv 1))) (pad_cons (pd_bin ox_mod (pd_v (pv 2)) (pd_v (pv 1))) pad_nil))))))))
/-! _law_told -/
abbrev s__law_told : Stmt := topS 54
abbrev N__law_told : List Str := ["_law_chart_here", "_law_square_here"]
theorem sc__law_told : FnScope N__law_told ["_law_chart_here"] (defScope s__law_told) := ⟨rfl, rfl, rfl, by decide +kernel, rfl, by decide +kernel, by decide +kernel⟩
def E__law_told_1 : EF :=
  (vr 1)
def T__law_told_1 : BF :=
  (bF (op2 geD (callF [.p, .p] F__law_what [] (consF (vr 0) (consF (vr 1) nilF))) (cst (.int 0))))
def C__law_told_1 : CF :=
  (compC (.nm 1) (List.map (·.2) ([("_law_square_here", 1)] : List (Str × Nat))) (srcF (callF [.p] F__law_all [] (consF (vr 0) nilF))) T__law_told_1 E__law_told_1)
def f__law_told : SF :=
  (retC C__law_told_1)
def F__law_told : List D → R := runD [.p] 2 f__law_told
theorem ok__law_told {P : Program} {w : World} {K : PySem.W.Frag} {mg : MG} {base : Heap} (T : Tx K mg) (G__law_what : DefOk P w K mg base 1 "_law_what" (He.ga K "_law_what") ["_law_chart_here", "_law_square_here"] [[]] (spD K mg [.p, .p] F__law_what)) (G__law_all : DefOk P w K mg base 1 "_law_all" (He.ga K "_law_all") ["_law_chart_here"] [[]] (spD K mg [.p] F__law_all)) (Dk : DefK K mg "_law_told" (He.ga K "_law_told") s__law_told ["_law_chart_here"] [[]]) : DefOk P w K mg base 2 "_law_told" (He.ga K "_law_told") ["_law_chart_here"] [[]] (spD K mg [.p] F__law_told) :=
  Dk.of (k := 1) sc__law_told rfl fun cdv A outer s H E B W hr tk => by
    exact (psd_one (psd_retC (pc_lc rfl sc__law_told.nd (pid_seq (pd_cl [] G__law_all (by simp) tk (hr.mono (by omega)) (by rfl) (pad_cons (pd_v (pv 0)) pad_nil))) (blkOk_by (own := [("_law_square_here", 1)]) (N := N__law_told) (sc := defScope s__law_told) (by decide +kernel)) (fun _ _ _ _ _ _ => (pgd_nm (i := 1) sc__law_told.nd rfl (.inl rfl))) (fun _ _ _ _ _ _ => (ptsd_one (pb_cmp ox_ge (pd_cl [] G__law_what (by simp) DH.takes0N (hr.mono (by omega)) (by rfl) (pad_cons (pd_v (pv 0)) (pad_cons (pd_v (pv 1)) pad_nil))) pd_int (nomark _)))) (fun _ _ _ _ _ _ => (pd_v (pv 1))))))
/-! _law_sides -/
abbrev s__law_sides : Stmt := topS 55
abbrev N__law_sides : List Str := ["_law_chart_here", "_law_found", "_law_square_here", "_law_other"]
theorem sc__law_sides : FnScope N__law_sides ["_law_chart_here"] (defScope s__law_sides) := ⟨rfl, rfl, rfl, by decide +kernel, rfl, by decide +kernel, by decide +kernel⟩
def B__law_sides_1 : SF :=
  (ifS (bF (op2 geD (callF [.p, .p] F__law_what [] (consF (vr 0) (consF (vr 3) nilF))) (cst (.int 0)))) (appS 1 (tupF (consF (vr 2) (consF (vr 3) nilF)))) nxS)
def L__law_sides_1 : SF :=
  (forS (.nm 3) (srcF (tupF (consF (tupF (consF (op2 ixD (vr 2) (cst (.int 0))) (consF (op2 addD (op2 ixD (vr 2) (cst (.int 1))) (cst (.int 1))) nilF))) (consF (tupF (consF (op2 addD (op2 ixD (vr 2) (cst (.int 0))) (cst (.int 1))) (consF (op2 ixD (vr 2) (cst (.int 1))) nilF))) nilF)))) B__law_sides_1)
def B__law_sides_2 : SF :=
  L__law_sides_1
def L__law_sides_2 : SF :=
  (forS (.nm 2) (srcF (callF [.p] F__law_told [] (consF (vr 0) nilF))) B__law_sides_2)
def f__law_sides : SF :=
  (seqS (asgO 1 (lstC nilF))
  (seqS L__law_sides_2
  (retC (bltC (one sortAD) (consF (vr 1) nilF)))))
def F__law_sides : List D → R := runD [.p] 4 f__law_sides
theorem ok__law_sides {P : Program} {w : World} {K : PySem.W.Frag} {mg : MG} {base : Heap} (T : Tx K mg) (G__law_what : DefOk P w K mg base 1 "_law_what" (He.ga K "_law_what") ["_law_chart_here", "_law_square_here"] [[]] (spD K mg [.p, .p] F__law_what)) (G__law_told : DefOk P w K mg base 2 "_law_told" (He.ga K "_law_told") ["_law_chart_here"] [[]] (spD K mg [.p] F__law_told)) (Dk : DefK K mg "_law_sides" (He.ga K "_law_sides") s__law_sides ["_law_chart_here"] [[]]) : DefOk P w K mg base 3 "_law_sides" (He.ga K "_law_sides") ["_law_chart_here"] [[]] (spD K mg [.p] F__law_sides) :=
  Dk.of (k := 2) sc__law_sides rfl fun cdv A outer s H E B W hr tk => by
    exact (psd_cons (psd_setO (i := 1) sc__law_sides.nd rfl (.inl rfl) (pc_lst pad_nil))
      (psd_cons (psd_for (passes_of rfl) rfl (pid_seq (pd_cl [] G__law_told (by simp) tk (hr.mono (by omega)) (by rfl) (pad_cons (pd_v (pv 0)) pad_nil))) (pgd_nm (i := 2) sc__law_sides.nd rfl (.inl rfl)) (psd_one (psd_for (passes_of rfl) rfl (pid_seq (pd_tup (pad_cons (pd_tup (pad_cons (pd_ix ix_data (pd_v (pv 2)) pd_int (fun _ _ => rfl)) (pad_cons (pd_bin ox_add (pd_ix ix_data (pd_v (pv 2)) pd_int (fun _ _ => rfl)) pd_int) pad_nil))) (pad_cons (pd_tup (pad_cons (pd_bin ox_add (pd_ix ix_data (pd_v (pv 2)) pd_int (fun _ _ => rfl)) pd_int) (pad_cons (pd_ix ix_data (pd_v (pv 2)) pd_int (fun _ _ => rfl)) pad_nil))) pad_nil)))) (pgd_nm (i := 3) sc__law_sides.nd rfl (.inl rfl)) (psd_one (psd_if (pb_cmp ox_ge (pd_cl [] G__law_what (by simp) tk (hr.mono (by omega)) (by rfl) (pad_cons (pd_v (pv 0)) (pad_cons (pd_v (pv 3)) pad_nil))) pd_int (nomark _)) (psd_one (psd_app (i := 1) (pe_bm PySem.F.plainAttrs_list PySem.F.slot_list_append PySem.F.type_list_append mt_append (pv 1) (pa_cons (pd_tup (pad_cons (pd_v (pv 2)) (pad_cons (pd_v (pv 3)) pad_nil))) pa_nil)))) psd_nil)))))
      (psd_one (psd_retC (pc_blt (cx_sortA (hu2 hr)) (by rfl) T.b_sorted (by decide +kernel) (pad_cons (pd_v (pv 1)) pad_nil))))))
/-! _law_kind -/
abbrev s__law_kind : Stmt := topS 57
abbrev N__law_kind : List Str := ["_law_e", "_law_rows", "_law_name", "_law_so"]
theorem sc__law_kind : FnScope N__law_kind ["_law_e"] (defScope s__law_kind) := ⟨rfl, rfl, rfl, by decide +kernel, rfl, by decide +kernel, by decide +kernel⟩
def E__law_kind_1 : EF :=
  (vr 2)
def T__law_kind_1 : BF :=
  (bF (vr 3))
def C__law_kind_1 : CF :=
  (compC (.tp [(.nm 2), (.nm 3)]) (List.map (·.2) ([("_law_name", 2), ("_law_so", 3)] : List (Str × Nat))) (srcL (frz 1)) T__law_kind_1 E__law_kind_1)
def f__law_kind (a : Addr) (x : Str) : SF :=
  (seqS (asgO 1 (lstC (consF (tupF (consF (cst (.str (Str.ofString "clock"))) (consF (isE a 0 (x == ("BadClock" : Str))) nilF))) (consF (tupF (consF (cst (.str (Str.ofString "hour"))) (consF (isE a 0 (x == ("BadHour" : Str))) nilF))) nilF))))
  (seqS (asgO 1 (op2C catL (vr 1) (frC (lstC (consF (tupF (consF (cst (.str (Str.ofString "chart"))) (consF (isE a 0 (x == ("BadChart" : Str))) nilF))) (consF (tupF (consF (cst (.str (Str.ofString "square"))) (consF (isE a 0 (x == ("BadSquare" : Str))) nilF))) nilF))))))
  (seqS (asgO 1 (op2C catL (vr 1) (frC (lstC (consF (tupF (consF (cst (.str (Str.ofString "ring"))) (consF (isE a 0 (x == ("BadRing" : Str))) nilF))) (consF (tupF (consF (cst (.str (Str.ofString "breaks"))) (consF (isE a 0 (x == ("BadBreaks" : Str))) nilF))) nilF))))))
  (seqS (asgO 1 (op2C catL (vr 1) (frC (lstC (consF (tupF (consF (cst (.str (Str.ofString "prices"))) (consF (isE a 0 (x == ("BadPrices" : Str))) nilF))) (consF (tupF (consF (cst (.str (Str.ofString "fill"))) (consF (isE a 0 (x == ("NoFill" : Str))) nilF))) nilF))))))
  (seqS (asgO 1 (op2C catL (vr 1) (frC (lstC (consF (tupF (consF (cst (.str (Str.ofString "unlike"))) (consF (isE a 0 (x == ("Unlike" : Str))) nilF))) (consF (tupF (consF (cst (.str (Str.ofString "name"))) (consF (isE a 0 (x == ("BadName" : Str))) nilF))) nilF))))))
  (seqS (asgO 1 (op2C catL (vr 1) (frC (lstC (consF (tupF (consF (cst (.str (Str.ofString "taken"))) (consF (isE a 0 (x == ("Taken" : Str))) nilF))) (consF (tupF (consF (cst (.str (Str.ofString "full"))) (consF (isE a 0 (x == ("Full" : Str))) nilF))) nilF))))))
  (seqS (asgO 1 (op2C catL (vr 1) (frC (lstC (consF (tupF (consF (cst (.str (Str.ofString "none"))) (consF (isE a 0 (x == ("NoChart" : Str))) nilF))) (consF (tupF (consF (cst (.str (Str.ofString "day"))) (consF (isE a 0 (x == ("BadDay" : Str))) nilF))) nilF))))))
  (seqS (asgO 1 (op2C catL (vr 1) (frC (lstC (consF (tupF (consF (cst (.str (Str.ofString "deed"))) (consF (isE a 0 (x == ("BadDeed" : Str))) nilF))) (consF (tupF (consF (cst (.str (Str.ofString "left"))) (consF (isE a 0 (x == ("NothingLeft" : Str))) nilF))) nilF))))))
  (seqS (asgO 1 (op2C catL (vr 1) (frC (lstC (consF (tupF (consF (cst (.str (Str.ofString "knotted"))) (consF (isE a 0 (x == ("Knotted" : Str))) nilF))) (consF (tupF (consF (cst (.str (Str.ofString "text"))) (consF (isE a 0 (x == ("BadText" : Str))) nilF))) nilF))))))
  (seqS (appS 1 (tupF (consF (cst (.str (Str.ofString "odd"))) (consF (op1 notD (isE a 0 true)) nilF))))
  (retS (joinF (cst (.str (Str.ofString " "))) (frC C__law_kind_1)))))))))))))
theorem ok__law_kind {P : Program} {w : World} {K : PySem.W.Frag} {mg : MG} {base : Heap} (T : Tx K mg) (KK : KindK K mg kt) {fd : FuncData} (Fd : FunD K "_law_kind" "_law_kind" (defArgs s__law_kind) (defBody s__law_kind) (defScope s__law_kind) [] [] (He.ga K "_law_kind") fd) (hb : Binds K fd ["_law_e"] []) (hm : mg "_law_kind" = some (.ref (He.ga K "_law_kind"))) (hrun : ∀ a, ∀ p ∈ kt, ∃ ρ', f__law_kind a p.1 (.fn a :: List.replicate (N__law_kind.length - 1) .un) = .rt (.str p.2) false ρ') : DefKind P w K mg base 1 "_law_kind" (He.ga K "_law_kind") ["_law_e"] kt :=
  defKind (k := 0) Fd sc__law_kind KK hb hm hrun fun p cdv A outer s H E B hr q hq hot hI hC => by
    exact (psd_cons (psd_setO (i := 1) sc__law_kind.nd rfl (.inl rfl) (pc_lst (pad_cons (pd_tup (pad_cons pd_str (pad_cons (hI _ (.ref (He.ga K "BadClock")) _ _ (fun _ h => h) (KK.i _ hq _ ((.head _) : (("BadClock" : Str), ("clock" : Str)) ∈ kt)) (pe_callB hC (by rfl) T.b_isinstance (by decide +kernel) (pa_cons (pv 0) (pa_cons (pe_glob (v := .ref (He.ga K "BadClock")) (by rfl) (KK.g _ ((.head _) : (("BadClock" : Str), ("clock" : Str)) ∈ kt)) rfl) pa_nil)))) pad_nil))) (pad_cons (pd_tup (pad_cons pd_str (pad_cons (hI _ (.ref (He.ga K "BadHour")) _ _ (fun _ h => h) (KK.i _ hq _ ((.tail _ (.head _)) : (("BadHour" : Str), ("hour" : Str)) ∈ kt)) (pe_callB hC (by rfl) T.b_isinstance (by decide +kernel) (pa_cons (pv 0) (pa_cons (pe_glob (v := .ref (He.ga K "BadHour")) (by rfl) (KK.g _ ((.tail _ (.head _)) : (("BadHour" : Str), ("hour" : Str)) ∈ kt)) rfl) pa_nil)))) pad_nil))) pad_nil))))
      (psd_cons (psd_setO (i := 1) sc__law_kind.nd rfl (.inl rfl) (pc_bin on_cat (pd_v (pv 1)) (pd_fr (pc_lst (pad_cons (pd_tup (pad_cons pd_str (pad_cons (hI _ (.ref (He.ga K "BadChart")) _ _ (fun _ h => h) (KK.i _ hq _ ((.tail _ (.tail _ (.head _))) : (("BadChart" : Str), ("chart" : Str)) ∈ kt)) (pe_callB hC (by rfl) T.b_isinstance (by decide +kernel) (pa_cons (pv 0) (pa_cons (pe_glob (v := .ref (He.ga K "BadChart")) (by rfl) (KK.g _ ((.tail _ (.tail _ (.head _))) : (("BadChart" : Str), ("chart" : Str)) ∈ kt)) rfl) pa_nil)))) pad_nil))) (pad_cons (pd_tup (pad_cons pd_str (pad_cons (hI _ (.ref (He.ga K "BadSquare")) _ _ (fun _ h => h) (KK.i _ hq _ ((.tail _ (.tail _ (.tail _ (.head _)))) : (("BadSquare" : Str), ("square" : Str)) ∈ kt)) (pe_callB hC (by rfl) T.b_isinstance (by decide +kernel) (pa_cons (pv 0) (pa_cons (pe_glob (v := .ref (He.ga K "BadSquare")) (by rfl) (KK.g _ ((.tail _ (.tail _ (.tail _ (.head _)))) : (("BadSquare" : Str), ("square" : Str)) ∈ kt)) rfl) pa_nil)))) pad_nil))) pad_nil))))))
      (psd_cons (psd_setO (i := 1) sc__law_kind.nd rfl (.inl rfl) (pc_bin on_cat (pd_v (pv 1)) (pd_fr (pc_lst (pad_cons (pd_tup (pad_cons pd_str (pad_cons (hI _ (.ref (He.ga K "BadRing")) _ _ (fun _ h => h) (KK.i _ hq _ ((.tail _ (.tail _ (.tail _ (.tail _ (.head _))))) : (("BadRing" : Str), ("ring" : Str)) ∈ kt)) (pe_callB hC (by rfl) T.b_isinstance (by decide +kernel) (pa_cons (pv 0) (pa_cons (pe_glob (v := .ref (He.ga K "BadRing")) (by rfl) (KK.g _ ((.tail _ (.tail _ (.tail _ (.tail _ (.head _))))) : (("BadRing" : Str), ("ring" : Str)) ∈ kt)) rfl) pa_nil)))) pad_nil))) (pad_cons (pd_tup (pad_cons pd_str (pad_cons (hI _ (.ref (He.ga K "BadBreaks")) _ _ (fun _ h => h) (KK.i _ hq _ ((.tail _ (.tail _ (.tail _ (.tail _ (.tail _ (.head _)))))) : (("BadBreaks" : Str), ("breaks" : Str)) ∈ kt)) (pe_callB hC (by rfl) T.b_isinstance (by decide +kernel) (pa_cons (pv 0) (pa_cons (pe_glob (v := .ref (He.ga K "BadBreaks")) (by rfl) (KK.g _ ((.tail _ (.tail _ (.tail _ (.tail _ (.tail _ (.head _)))))) : (("BadBreaks" : Str), ("breaks" : Str)) ∈ kt)) rfl) pa_nil)))) pad_nil))) pad_nil))))))
      (psd_cons (psd_setO (i := 1) sc__law_kind.nd rfl (.inl rfl) (pc_bin on_cat (pd_v (pv 1)) (pd_fr (pc_lst (pad_cons (pd_tup (pad_cons pd_str (pad_cons (hI _ (.ref (He.ga K "BadPrices")) _ _ (fun _ h => h) (KK.i _ hq _ ((.tail _ (.tail _ (.tail _ (.tail _ (.tail _ (.tail _ (.head _))))))) : (("BadPrices" : Str), ("prices" : Str)) ∈ kt)) (pe_callB hC (by rfl) T.b_isinstance (by decide +kernel) (pa_cons (pv 0) (pa_cons (pe_glob (v := .ref (He.ga K "BadPrices")) (by rfl) (KK.g _ ((.tail _ (.tail _ (.tail _ (.tail _ (.tail _ (.tail _ (.head _))))))) : (("BadPrices" : Str), ("prices" : Str)) ∈ kt)) rfl) pa_nil)))) pad_nil))) (pad_cons (pd_tup (pad_cons pd_str (pad_cons (hI _ (.ref (He.ga K "NoFill")) _ _ (fun _ h => h) (KK.i _ hq _ ((.tail _ (.tail _ (.tail _ (.tail _ (.tail _ (.tail _ (.tail _ (.head _)))))))) : (("NoFill" : Str), ("fill" : Str)) ∈ kt)) (pe_callB hC (by rfl) T.b_isinstance (by decide +kernel) (pa_cons (pv 0) (pa_cons (pe_glob (v := .ref (He.ga K "NoFill")) (by rfl) (KK.g _ ((.tail _ (.tail _ (.tail _ (.tail _ (.tail _ (.tail _ (.tail _ (.head _)))))))) : (("NoFill" : Str), ("fill" : Str)) ∈ kt)) rfl) pa_nil)))) pad_nil))) pad_nil))))))
      (psd_cons (psd_setO (i := 1) sc__law_kind.nd rfl (.inl rfl) (pc_bin on_cat (pd_v (pv 1)) (pd_fr (pc_lst (pad_cons (pd_tup (pad_cons pd_str (pad_cons (hI _ (.ref (He.ga K "Unlike")) _ _ (fun _ h => h) (KK.i _ hq _ ((.tail _ (.tail _ (.tail _ (.tail _ (.tail _ (.tail _ (.tail _ (.tail _ (.head _))))))))) : (("Unlike" : Str), ("unlike" : Str)) ∈ kt)) (pe_callB hC (by rfl) T.b_isinstance (by decide +kernel) (pa_cons (pv 0) (pa_cons (pe_glob (v := .ref (He.ga K "Unlike")) (by rfl) (KK.g _ ((.tail _ (.tail _ (.tail _ (.tail _ (.tail _ (.tail _ (.tail _ (.tail _ (.head _))))))))) : (("Unlike" : Str), ("unlike" : Str)) ∈ kt)) rfl) pa_nil)))) pad_nil))) (pad_cons (pd_tup (pad_cons pd_str (pad_cons (hI _ (.ref (He.ga K "BadName")) _ _ (fun _ h => h) (KK.i _ hq _ ((.tail _ (.tail _ (.tail _ (.tail _ (.tail _ (.tail _ (.tail _ (.tail _ (.tail _ (.head _)))))))))) : (("BadName" : Str), ("name" : Str)) ∈ kt)) (pe_callB hC (by rfl) T.b_isinstance (by decide +kernel) (pa_cons (pv 0) (pa_cons (pe_glob (v := .ref (He.ga K "BadName")) (by rfl) (KK.g _ ((.tail _ (.tail _ (.tail _ (.tail _ (.tail _ (.tail _ (.tail _ (.tail _ (.tail _ (.head _)))))))))) : (("BadName" : Str), ("name" : Str)) ∈ kt)) rfl) pa_nil)))) pad_nil))) pad_nil))))))
      (psd_cons (psd_setO (i := 1) sc__law_kind.nd rfl (.inl rfl) (pc_bin on_cat (pd_v (pv 1)) (pd_fr (pc_lst (pad_cons (pd_tup (pad_cons pd_str (pad_cons (hI _ (.ref (He.ga K "Taken")) _ _ (fun _ h => h) (KK.i _ hq _ ((.tail _ (.tail _ (.tail _ (.tail _ (.tail _ (.tail _ (.tail _ (.tail _ (.tail _ (.tail _ (.head _))))))))))) : (("Taken" : Str), ("taken" : Str)) ∈ kt)) (pe_callB hC (by rfl) T.b_isinstance (by decide +kernel) (pa_cons (pv 0) (pa_cons (pe_glob (v := .ref (He.ga K "Taken")) (by rfl) (KK.g _ ((.tail _ (.tail _ (.tail _ (.tail _ (.tail _ (.tail _ (.tail _ (.tail _ (.tail _ (.tail _ (.head _))))))))))) : (("Taken" : Str), ("taken" : Str)) ∈ kt)) rfl) pa_nil)))) pad_nil))) (pad_cons (pd_tup (pad_cons pd_str (pad_cons (hI _ (.ref (He.ga K "Full")) _ _ (fun _ h => h) (KK.i _ hq _ ((.tail _ (.tail _ (.tail _ (.tail _ (.tail _ (.tail _ (.tail _ (.tail _ (.tail _ (.tail _ (.tail _ (.head _)))))))))))) : (("Full" : Str), ("full" : Str)) ∈ kt)) (pe_callB hC (by rfl) T.b_isinstance (by decide +kernel) (pa_cons (pv 0) (pa_cons (pe_glob (v := .ref (He.ga K "Full")) (by rfl) (KK.g _ ((.tail _ (.tail _ (.tail _ (.tail _ (.tail _ (.tail _ (.tail _ (.tail _ (.tail _ (.tail _ (.tail _ (.head _)))))))))))) : (("Full" : Str), ("full" : Str)) ∈ kt)) rfl) pa_nil)))) pad_nil))) pad_nil))))))
      (psd_cons (psd_setO (i := 1) sc__law_kind.nd rfl (.inl rfl) (pc_bin on_cat (pd_v (pv 1)) (pd_fr (pc_lst (pad_cons (pd_tup (pad_cons pd_str (pad_cons (hI _ (.ref (He.ga K "NoChart")) _ _ (fun _ h => h) (KK.i _ hq _ ((.tail _ (.tail _ (.tail _ (.tail _ (.tail _ (.tail _ (.tail _ (.tail _ (.tail _ (.tail _ (.tail _ (.tail _ (.head _))))))))))))) : (("NoChart" : Str), ("none" : Str)) ∈ kt)) (pe_callB hC (by rfl) T.b_isinstance (by decide +kernel) (pa_cons (pv 0) (pa_cons (pe_glob (v := .ref (He.ga K "NoChart")) (by rfl) (KK.g _ ((.tail _ (.tail _ (.tail _ (.tail _ (.tail _ (.tail _ (.tail _ (.tail _ (.tail _ (.tail _ (.tail _ (.tail _ (.head _))))))))))))) : (("NoChart" : Str), ("none" : Str)) ∈ kt)) rfl) pa_nil)))) pad_nil))) (pad_cons (pd_tup (pad_cons pd_str (pad_cons (hI _ (.ref (He.ga K "BadDay")) _ _ (fun _ h => h) (KK.i _ hq _ ((.tail _ (.tail _ (.tail _ (.tail _ (.tail _ (.tail _ (.tail _ (.tail _ (.tail _ (.tail _ (.tail _ (.tail _ (.tail _ (.head _)))))))))))))) : (("BadDay" : Str), ("day" : Str)) ∈ kt)) (pe_callB hC (by rfl) T.b_isinstance (by decide +kernel) (pa_cons (pv 0) (pa_cons (pe_glob (v := .ref (He.ga K "BadDay")) (by rfl) (KK.g _ ((.tail _ (.tail _ (.tail _ (.tail _ (.tail _ (.tail _ (.tail _ (.tail _ (.tail _ (.tail _ (.tail _ (.tail _ (.tail _ (.head _)))))))))))))) : (("BadDay" : Str), ("day" : Str)) ∈ kt)) rfl) pa_nil)))) pad_nil))) pad_nil))))))
      (psd_cons (psd_setO (i := 1) sc__law_kind.nd rfl (.inl rfl) (pc_bin on_cat (pd_v (pv 1)) (pd_fr (pc_lst (pad_cons (pd_tup (pad_cons pd_str (pad_cons (hI _ (.ref (He.ga K "BadDeed")) _ _ (fun _ h => h) (KK.i _ hq _ ((.tail _ (.tail _ (.tail _ (.tail _ (.tail _ (.tail _ (.tail _ (.tail _ (.tail _ (.tail _ (.tail _ (.tail _ (.tail _ (.tail _ (.head _))))))))))))))) : (("BadDeed" : Str), ("deed" : Str)) ∈ kt)) (pe_callB hC (by rfl) T.b_isinstance (by decide +kernel) (pa_cons (pv 0) (pa_cons (pe_glob (v := .ref (He.ga K "BadDeed")) (by rfl) (KK.g _ ((.tail _ (.tail _ (.tail _ (.tail _ (.tail _ (.tail _ (.tail _ (.tail _ (.tail _ (.tail _ (.tail _ (.tail _ (.tail _ (.tail _ (.head _))))))))))))))) : (("BadDeed" : Str), ("deed" : Str)) ∈ kt)) rfl) pa_nil)))) pad_nil))) (pad_cons (pd_tup (pad_cons pd_str (pad_cons (hI _ (.ref (He.ga K "NothingLeft")) _ _ (fun _ h => h) (KK.i _ hq _ ((.tail _ (.tail _ (.tail _ (.tail _ (.tail _ (.tail _ (.tail _ (.tail _ (.tail _ (.tail _ (.tail _ (.tail _ (.tail _ (.tail _ (.tail _ (.head _)))))))))))))))) : (("NothingLeft" : Str), ("left" : Str)) ∈ kt)) (pe_callB hC (by rfl) T.b_isinstance (by decide +kernel) (pa_cons (pv 0) (pa_cons (pe_glob (v := .ref (He.ga K "NothingLeft")) (by rfl) (KK.g _ ((.tail _ (.tail _ (.tail _ (.tail _ (.tail _ (.tail _ (.tail _ (.tail _ (.tail _ (.tail _ (.tail _ (.tail _ (.tail _ (.tail _ (.tail _ (.head _)))))))))))))))) : (("NothingLeft" : Str), ("left" : Str)) ∈ kt)) rfl) pa_nil)))) pad_nil))) pad_nil))))))
      (psd_cons (psd_setO (i := 1) sc__law_kind.nd rfl (.inl rfl) (pc_bin on_cat (pd_v (pv 1)) (pd_fr (pc_lst (pad_cons (pd_tup (pad_cons pd_str (pad_cons (hI _ (.ref (He.ga K "Knotted")) _ _ (fun _ h => h) (KK.i _ hq _ ((.tail _ (.tail _ (.tail _ (.tail _ (.tail _ (.tail _ (.tail _ (.tail _ (.tail _ (.tail _ (.tail _ (.tail _ (.tail _ (.tail _ (.tail _ (.tail _ (.head _))))))))))))))))) : (("Knotted" : Str), ("knotted" : Str)) ∈ kt)) (pe_callB hC (by rfl) T.b_isinstance (by decide +kernel) (pa_cons (pv 0) (pa_cons (pe_glob (v := .ref (He.ga K "Knotted")) (by rfl) (KK.g _ ((.tail _ (.tail _ (.tail _ (.tail _ (.tail _ (.tail _ (.tail _ (.tail _ (.tail _ (.tail _ (.tail _ (.tail _ (.tail _ (.tail _ (.tail _ (.tail _ (.head _))))))))))))))))) : (("Knotted" : Str), ("knotted" : Str)) ∈ kt)) rfl) pa_nil)))) pad_nil))) (pad_cons (pd_tup (pad_cons pd_str (pad_cons (hI _ (.ref (He.ga K "BadText")) _ _ (fun _ h => h) (KK.i _ hq _ ((.tail _ (.tail _ (.tail _ (.tail _ (.tail _ (.tail _ (.tail _ (.tail _ (.tail _ (.tail _ (.tail _ (.tail _ (.tail _ (.tail _ (.tail _ (.tail _ (.tail _ (.head _)))))))))))))))))) : (("BadText" : Str), ("text" : Str)) ∈ kt)) (pe_callB hC (by rfl) T.b_isinstance (by decide +kernel) (pa_cons (pv 0) (pa_cons (pe_glob (v := .ref (He.ga K "BadText")) (by rfl) (KK.g _ ((.tail _ (.tail _ (.tail _ (.tail _ (.tail _ (.tail _ (.tail _ (.tail _ (.tail _ (.tail _ (.tail _ (.tail _ (.tail _ (.tail _ (.tail _ (.tail _ (.tail _ (.head _)))))))))))))))))) : (("BadText" : Str), ("text" : Str)) ∈ kt)) rfl) pa_nil)))) pad_nil))) pad_nil))))))
      (psd_cons (psd_app (i := 1) (pe_bm PySem.F.plainAttrs_list PySem.F.slot_list_append PySem.F.type_list_append mt_append (pv 1) (pa_cons (pd_tup (pad_cons pd_str (pad_cons (pd_not (hI _ (.ty "ValueError") (.type "ValueError") _ (fun u h => h) (KK.v _ hq) (pe_callB hC (by rfl) T.b_isinstance (by decide +kernel) (pa_cons (pv 0) (pa_cons (pe_bltn (v := .ty "ValueError") (u := .type "ValueError") (by rfl) T.b_ValueError (by decide +kernel) rfl) pa_nil))))) pad_nil))) pa_nil)))
      (psd_one (psd_ret (pd_join pd_str (pd_fr (pc_lcH hot sc__law_kind.nd (pidH_seq (pd_f (pv 1))) (blkOk_by (own := [("_law_name", 2), ("_law_so", 3)]) (N := N__law_kind) (sc := defScope s__law_kind) (by decide +kernel)) (fun _ _ _ _ _ _ => (pgd_tpH hot (pgsd_cons (pgd_nm (i := 2) sc__law_kind.nd rfl (.inl rfl)) (pgsd_cons (pgd_nm (i := 3) sc__law_kind.nd rfl (.inl rfl)) pgsd_nil)) rfl)) (fun _ _ _ _ _ _ => (ptsd_one (pb_v (pd_v (pv 3))))) (fun _ _ _ _ _ _ => (pd_v (pv 2))))))))))))))))))
/-! _law_word -/
abbrev s__law_word : Stmt := topS 56
abbrev N__law_word : List Str := ["_law_ask", "_law_e"]
theorem sc__law_word : FnScope N__law_word ["_law_ask"] (defScope s__law_word) := ⟨rfl, rfl, rfl, by decide +kernel, rfl, by decide +kernel, by decide +kernel⟩
theorem ok__law_word {P : Program} {w : World} {K : PySem.W.Frag} {mg : MG} {base : Heap} (T : Tx K mg) (KX : ∀ p ∈ kt, PySem.W.exmOne K (.ref (He.ga K p.1)) (.ref (He.ga K "TideError")) = some true) (KG : ∀ p ∈ kt, mg p.1 = some (.ref (He.ga K p.1))) (G : DefKind P w K mg base 1 "_law_kind" (He.ga K "_law_kind") ["_law_e"] kt) {fd : FuncData} (Fd : FunD K "_law_word" "_law_word" (defArgs s__law_word) (defBody s__law_word) (defScope s__law_word) [] [] (He.ga K "_law_word") fd) (hb : Binds K fd ["_law_ask"] []) (hm : mg "_law_word" = some (.ref (He.ga K "_law_word"))) : DefWord P w K mg base 1 "_law_word" (He.ga K "_law_word") kt :=
  defWord Fd sc__law_word hb hm rfl rfl (by first | exact Or.inl rfl | exact Or.inr (Or.inl rfl)) rfl (by decide) (by decide) (by decide) (by decide) rfl T.e_TideError.g (by decide) rfl (by decide) KX KG G
/-! law -/
abbrev s_law : Stmt := topS 58
abbrev N_law : List Str := ["_law_script", "_law_box_here", "_law_chart_here", "_law_due", "_law_turn", "_law_found", "_law_square_here", "<tab>"]
theorem sc_law : FnScope N_law ["_law_script"] (defScope s_law) := ⟨rfl, rfl, rfl, by decide +kernel, rfl, by decide +kernel, by decide +kernel⟩
def B_law_1 : SF :=
  (seqS (asgTr 5 (lstT (consT (callC [.p] F_told [] (consF (vr 2) nilF)) (consT (callC [.p] F_sides [] (consF (vr 2) nilF)) nilT))))
  (seqS (ifS (orB (notB (bF (callT [.p, .p] (F__law_same 16) [] (consF (vr 5) (consF (vr 3) nilF))))) (notB (bF (callF [.p, .p] (F__law_same 16) [] (consF (callF [.p] F_size [] (consF (vr 2) nilF)) (consF (tupF (consF (bltF (one lenD) (consF (op2 ixD (vr 2) (cst (.int 1))) nilF)) (consF (bltF (one lenD) (consF (op2 ixD (op2 ixD (vr 2) (cst (.int 1))) (cst (.int 0))) nilF)) nilF))) nilF)))))) (retS (cst (.bool false))) nxS)
  (seqS (revR 5 (ixR 5 (fun _ => some []) (fun _ => some (.int 0))))
  (appR 5 (ixR 5 (fun _ => some []) (fun _ => some (.int 1))) (cst (.int 0))))))
def L_law_1 : SF :=
  (forS (.nm 4) (srcR1 (cst (.int 2))) B_law_1)
def B_law_2 : SF :=
  (ifS (notB (bF (callF [.p, .p] (F__law_same 16) [] (consF (callF [.p, .p] F_hour_at [] (consF (vr 2) (consF (vr 6) nilF))) (consF (callF [.p, .p] F__law_what [] (consF (vr 2) (consF (vr 6) nilF))) nilF))))) (retS (cst (.bool false))) nxS)
def L_law_2 : SF :=
  (forS (.nm 6) (srcF (callF [.p] F__law_all [] (consF (vr 2) nilF))) B_law_2)
def E_law_1 : EF :=
  (callF [.p, .p] F_hour_at [] (consF (vr 2) (consF (vr 6) nilF)))
def B_law_3 (T : List (Addr × Str)) : SF :=
  (ifS (bF (op2 neD (lamF 7 T (wordF kt E_law_1)) (cst (.str (Str.ofString "square"))))) (retS (cst (.bool false))) nxS)
def L_law_3 (T : List (Addr × Str)) : SF :=
  (forS (.nm 6) (srcF (tupF (consF (tupF (consF (op1 negD (cst (.int 1))) (consF (cst (.int 0)) nilF))) (consF (tupF (consF (cst (.int 0)) (consF (op1 negD (cst (.int 1))) nilF))) (consF (tupF (consF (bltF (one lenD) (consF (op2 ixD (vr 2) (cst (.int 1))) nilF)) (consF (cst (.int 0)) nilF))) (consF (tupF (consF (cst (.int 0)) (consF (bltF (one lenD) (consF (op2 ixD (op2 ixD (vr 2) (cst (.int 1))) (cst (.int 0))) nilF)) nilF))) (consF (tupF (consF (callO [] F__law_number [] (consF (vr 1) nilF)) (consF (op2 powD (cst (.int 10)) (cst (.int 20))) nilF))) nilF))))))) (B_law_3 T))
def f_law (T : List (Addr × Str)) (a : Addr) (ns : List Int) : SF :=
  (seqS (asgO 1 (boxC a (boxD ns) (consF (vr 0) nilF)))
  (seqS (asg 2 (callO [.p, .p] F__law_chart [] (consF (vr 1) (consF (cst (.int 9)) (consF (cst (.int 2)) nilF)))))
  (seqS (asg 3 (frC (lstC (consF (callF [.p] F__law_told [] (consF (vr 2) nilF)) (consF (callF [.p] F__law_sides [] (consF (vr 2) nilF)) nilF)))))
  (seqS L_law_1
  (seqS L_law_2
  (seqS (L_law_3 T)
  (retS (cst (.bool true)))))))))
abbrev qual_law : (("law" : Str) ++ (".<locals>." : Str)) ++ ("<lambda>" : Str) = ("law.<locals>.<lambda>" : Str) := by kernel_rfl
theorem ok_law {P : Program} {w : World} {K : PySem.W.Frag} {mg : MG} {base : Heap} (T : Tx K mg) (G_law_box : DefBox P w K mg base 1 "_law_box" (He.ga K "_law_box") "_law_script" f_law_box 3) (hB : ∀ (a : Addr) (ns : List Int), ns.length ≤ 63 → ∃ ρ1, f_law_box a ns (.fn a :: List.replicate (3 - 1) .un) = .rt (boxD ns) true ρ1) (G_size : DefOk P w K mg base 4 "size" (He.ga K "size") ["chart"] [[]] (spD K mg [.p] F_size)) (G_hour_at : DefOk P w K mg base 4 "hour_at" (He.ga K "hour_at") ["chart", "square"] [[]] (spD K mg [.p, .p] F_hour_at)) (G_told : DefOk P w K mg base 4 "told" (He.ga K "told") ["chart"] [[]] (spD K mg [.p] F_told)) (G_sides : DefOk P w K mg base 4 "sides" (He.ga K "sides") ["chart"] [[]] (spD K mg [.p] F_sides)) (G__law_same : DefOk P w K mg base 18 "_law_same" (He.ga K "_law_same") ["_law_found", "_law_due"] [[]] (spD K mg [.p, .p] (F__law_same 16))) (G__law_number : DefOk P w K mg base 3 "_law_number" (He.ga K "_law_number") ["_law_box_here"] [[]] (spO K mg [] F__law_number)) (G__law_chart : DefOk P w K mg base 4 "_law_chart" (He.ga K "_law_chart") ["_law_box_here", "_law_most", "_law_untold"] [[]] (spO K mg [.p, .p] F__law_chart)) (G__law_what : DefOk P w K mg base 1 "_law_what" (He.ga K "_law_what") ["_law_chart_here", "_law_square_here"] [[]] (spD K mg [.p, .p] F__law_what)) (G__law_all : DefOk P w K mg base 1 "_law_all" (He.ga K "_law_all") ["_law_chart_here"] [[]] (spD K mg [.p] F__law_all)) (G__law_told : DefOk P w K mg base 2 "_law_told" (He.ga K "_law_told") ["_law_chart_here"] [[]] (spD K mg [.p] F__law_told)) (G__law_sides : DefOk P w K mg base 3 "_law_sides" (He.ga K "_law_sides") ["_law_chart_here"] [[]] (spD K mg [.p] F__law_sides)) (G__law_word : DefWord P w K mg base 1 "_law_word" (He.ga K "_law_word") kt) (TB : LamX.TabB base mg (He.cT K ("law", none)).1 (He.cT K ("law", none)).2) {fd : FuncData} (Fd : FunD K "law" "law" (defArgs s_law) (defBody s_law) (defScope s_law) [] [] (He.ga K "law") fd) : FnOk P w K mg base (L2N.CX P w) 21 (He.ga K "law") fd ["_law_script"] (spLawT K f_law 8 (LT K)) :=
  defLawT (m := 6) Fd sc_law rfl fun ns a cdv A outer s H E B W hcd hr tk hS => by
    have hcode : cdv = .ref (He.cT K ("law", none)).1 := hcd.symm.trans (code_at Fd)
    exact (psd_cons (psd_setO (i := 1) sc_law.nd rfl (.inl rfl) (pc_box hS G_law_box (hB a ns hS.1) tk (hr.mono (by omega)) (by rfl) (pad_cons (pd_v (pv 0)) pad_nil)))
      (psd_cons (psd_set (i := 2) sc_law.nd rfl (.inr rfl) (pd_clO [] G__law_chart (by simp) tk (hr.mono (by omega)) (by rfl) (pad_cons (pd_v (pv 1)) (pad_cons pd_int (pad_cons pd_int pad_nil)))))
      (psd_cons (psd_set (i := 3) sc_law.nd rfl (.inl rfl) (pd_fr (pc_lst (pad_cons (pd_cl [] G__law_told (by simp) tk (hr.mono (by omega)) (by rfl) (pad_cons (pd_v (pv 2)) pad_nil)) (pad_cons (pd_cl [] G__law_sides (by simp) tk (hr.mono (by omega)) (by rfl) (pad_cons (pd_v (pv 2)) pad_nil)) pad_nil)))))
      (psd_cons (psd_for (passes_of rfl) rfl (pid_r1 (by rfl) T.b_range pd_int) (pgd_nm (i := 4) sc_law.nd rfl (.inl rfl)) (psd_cons (psd_setT (i := 5) sc_law.nd rfl (.inl rfl) (pt_lst (pta_cons (pt_c (pc_cl [] G_told (by simp) tk (hr.mono (by omega)) (by rfl) (pad_cons (pd_v (pv 2)) pad_nil))) (fun _ => (pta_cons (pt_c (pc_cl [] G_sides (by simp) tk (hr.mono (by omega)) (by rfl) (pad_cons (pd_v (pv 2)) pad_nil))) (fun _ => pta_nil))))))
      (psd_cons (psd_if (pb_w (pw_o (pb_not (pb_v (pd_clT [] G__law_same (by simp) tk (hr.mono (by omega)) (by rfl) (pad_cons (pd_v (pv 5)) (pad_cons (pd_v (pv 3)) pad_nil))))) (pw_o1 (pb_not (pb_v (pd_cl [] G__law_same (by simp) tk (hr.mono (by omega)) (by rfl) (pad_cons (pd_cl [] G_size (by simp) tk (hr.mono (by omega)) (by rfl) (pad_cons (pd_v (pv 2)) pad_nil)) (pad_cons (pd_tup (pad_cons (pd_blt cx_len (by rfl) T.b_len boot_len (pad_cons (pd_ix ix_data (pd_v (pv 2)) pd_int (fun _ _ => rfl)) pad_nil)) (pad_cons (pd_blt cx_len (by rfl) T.b_len boot_len (pad_cons (pd_ix ix_data (pd_ix ix_data (pd_v (pv 2)) pd_int (fun _ _ => rfl)) pd_int (fun _ _ => rfl)) pad_nil)) pad_nil))) pad_nil)))))))) (psd_one (psd_ret pd_bl)) psd_nil)
      (psd_cons (psd_revR (pe_bm0 PySem.F.plainAttrs_list PySem.F.slot_list_reverse PySem.F.type_list_reverse mt_reverse (prq_ix (prq_v (pv 5)) pq_int (fun _ _ => rfl))))
      (psd_one (psd_appR (pe_bm PySem.F.plainAttrs_list PySem.F.slot_list_append PySem.F.type_list_append mt_append (prq_ix (prq_v (pv 5)) pq_int (fun _ _ => rfl)) (pa_cons (pdA fun _ => pd_int) pa_nil))))))))
      (psd_cons (psd_for (passes_of rfl) rfl (pid_seq (pd_cl [] G__law_all (by simp) tk (hr.mono (by omega)) (by rfl) (pad_cons (pd_v (pv 2)) pad_nil))) (pgd_nm (i := 6) sc_law.nd rfl (.inr rfl)) (psd_one (psd_if (pb_not (pb_v (pd_cl [] G__law_same (by simp) tk (hr.mono (by omega)) (by rfl) (pad_cons (pd_cl [] G_hour_at (by simp) tk (hr.mono (by omega)) (by rfl) (pad_cons (pd_v (pv 2)) (pad_cons (pd_v (pv 6)) pad_nil))) (pad_cons (pd_cl [] G__law_what (by simp) tk (hr.mono (by omega)) (by rfl) (pad_cons (pd_v (pv 2)) (pad_cons (pd_v (pv 6)) pad_nil))) pad_nil))))) (psd_one (psd_ret pd_bl)) psd_nil)))
      (psd_cons (psd_for (passes_of rfl) rfl (pid_seq (pd_tup (pad_cons (pd_tup (pad_cons (pd_neg pd_int) (pad_cons pd_int pad_nil))) (pad_cons (pd_tup (pad_cons pd_int (pad_cons (pd_neg pd_int) pad_nil))) (pad_cons (pd_tup (pad_cons (pd_blt cx_len (by rfl) T.b_len boot_len (pad_cons (pd_ix ix_data (pd_v (pv 2)) pd_int (fun _ _ => rfl)) pad_nil)) (pad_cons pd_int pad_nil))) (pad_cons (pd_tup (pad_cons pd_int (pad_cons (pd_blt cx_len (by rfl) T.b_len boot_len (pad_cons (pd_ix ix_data (pd_ix ix_data (pd_v (pv 2)) pd_int (fun _ _ => rfl)) pd_int (fun _ _ => rfl)) pad_nil)) pad_nil))) (pad_cons (pd_tup (pad_cons (pd_clO [] G__law_number (by simp) tk (hr.mono (by omega)) (by rfl) (pad_cons (pd_v (pv 1)) pad_nil)) (pad_cons (pd_bin ox_pow pd_int pd_int) pad_nil))) pad_nil))))))) (pgd_nm (i := 6) sc_law.nd rfl (.inr rfl)) (psd_one (psd_if (pb_cmp (ox_ne hr.units) (pd_word (T := LT K) (i := 7) (G__law_word.mono (by omega)) (by rfl) TB (show _ from hcode) qual_law hr (lamS_by (sc := defScope s_law) (by decide +kernel)) rfl (fun _ _ _ _ _ => rfl) ⟨_, .head _, rfl⟩ (fun p hp _ => by cases hp with | head => rfl | tail _ h => cases h) (fun _ _ _ _ _ _ _ hr => (pd_cl [] G_hour_at (by simp) (L2N.takes_of rfl rfl rfl rfl) (hr.mono (by omega)) (by rfl) (pad_cons (pd_v (pv 2)) (pad_cons (pd_v (pv 6)) pad_nil))))) pd_str (nomark _)) (psd_one (psd_ret pd_bl)) psd_nil)))
      (psd_one (psd_ret pd_bl))))))))
end LW

/-! K06m -/
namespace LW
open PySem PySem.Spec PyProof.Rows L2 DL DH LamX
/-! ### mirrors: what the law's helpers compute -/
section
variable {α β : Type}
theorem bind_ok (a : α) (r : En) (f : α → En → O β) : O.bind (.ok a r) f = f a r := rfl
theorem bind_er (e : Er) (r : En) (f : α → En → O β) : O.bind (.er e r) f = .er e r := rfl
theorem bind_bad (f : α → En → O β) : O.bind .bad f = .bad := rfl
theorem then_ok (a : α) (r : En) (f : α → En → SO) : O.then (.ok a r) f = f a r := rfl
theorem then_er (e : Er) (r : En) (f : α → En → SO) : O.then (.er e r) f = .er e r := rfl
theorem then_bad (f : α → En → SO) : O.then .bad f = .bad := rfl
theorem opt_some (a : α) (r : En) : opt (some a) r = .ok a r := rfl
theorem opt_none (r : En) : opt (none : Option α) r = .bad := rfl
theorem noEr_ok (a : α) (r : En) : noEr (.ok a r) = .ok a r := rfl
theorem noEr_er (e : Er) (r : En) : noEr (.er e r : O α) = .bad := rfl
end
theorem one_d (g : D → Option D) (d : D) : one g [d] = g d := rfl
theorem add_int (i j : Int) : addD (.int i) (.int j) = some (.int (i + j)) := rfl
theorem sub_int (i j : Int) : subD (.int i) (.int j) = some (.int (i - j)) := rfl
theorem mulOk_r {i j : Int} (h : j.natAbs < 18446744073709551616) : mulOk i j = true := by
  unfold mulOk
  rw [decide_eq_true h, Bool.or_true]
theorem mulOk_l {i j : Int} (h : i.natAbs < 18446744073709551616) : mulOk i j = true := by
  unfold mulOk
  rw [decide_eq_true h, Bool.true_or]
theorem mul_r {i j : Int} (h : j.natAbs < 18446744073709551616) : mulD (.int i) (.int j) = some (.int (i * j)) := if_pos (mulOk_r h)
theorem mul_l {i j : Int} (h : i.natAbs < 18446744073709551616) : mulD (.int i) (.int j) = some (.int (i * j)) := if_pos (mulOk_l h)
theorem mod_p {i j : Int} (h : 0 < j) : modD (.int i) (.int j) = some (.int (i % j)) := if_pos h
theorem div_ok {i j : Int} (h : divOk j = true) : divD (.int i) (.int j) = some (.int (i / j)) := if_pos h
theorem divOk_of {j : Int} (h : 0 < j) (h2 : j < 1000000000000000000000) : divOk j = true := by
  unfold divOk
  rw [decide_eq_true h, Bool.true_and]
  refine decide_eq_true (Nat.lt_of_lt_of_le (m := 70) ?_ (by decide))
  by_cases z : j.natAbs = 0
  · rw [z]; decide
  · exact (Nat.log2_lt z).mpr (by
      have e : (2 : Nat) ^ 70 = 1180591620717411303424 := by decide
      rw [e]
      omega)
theorem pow_n {i : Int} {n : Nat} (h1 : n ≤ 1000000) (h2 : i.natAbs < 18446744073709551616) : powD (.int i) (.int (n : Int)) = some (.int (i ^ n)) := by
  have c : powOk i n = true := by
    unfold powOk
    rw [decide_eq_true (by omega), decide_eq_true (by omega), decide_eq_true h2]
    rfl
  show (if powOk i n = true then some (PyData.int (i ^ (n : Int).toNat)) else none) = _
  rw [if_pos c, Int.toNat_natCast]
def mBase (x t : Int) : Int := (x * 7919 + t * 104729 + 17) % 2147483647
def mixed (x t : Int) : Int := (mBase x t * (mBase x t % 9973 + 1) + (t * 31337 + x / 1009 % 65521)) % 998244353 / 11
theorem mixed_eq (x t : Int) : F__law_mixed [.int x, .int t] = .ok (.int (mixed x t)) false .none := by
  have b1 : (mBase x t).natAbs < 18446744073709551616 := by
    unfold mBase
    have h1 := Int.emod_nonneg (x * 7919 + t * 104729 + 17) (show (2147483647 : Int) ≠ 0 by decide)
    have h2 := Int.emod_lt_of_pos (x * 7919 + t * 104729 + 17) (show (0 : Int) < 2147483647 by decide)
    omega
  simp only [F__law_mixed, f__law_mixed, runD, runO, out0, slots0, List.replicate, List.append_nil, List.cons_append, List.nil_append, List.length_cons, List.length_nil, retS, retC, retO, retN, seqS, ifS, asg, asgO, exprS, appS, setS, augS, asgT, raiseS, nxS, op1, op2, op2C, tst, andF, orF, ifF, andB, orB, notB, chF, cst, vr, frz, frC, lstC, tupF, consF, nilF, bltF, bltC, one_d, bind_ok, bind_er, bind_bad, then_ok, then_er, then_bad, opt_some, opt_none, Vl.get, Slot.get, Slot.put, Slot.cont, Slot.lst, Slot.mut, Slot.shal, stables, sh, gets, argD, argB, callF, callO, callC, callB, callW, pick, Pk.of, and_self, boxC, partF, slF, srcF, srcR1, srcR2, srcZ, forS, popF, noEr_ok, noEr_er, yes, List.getElem?_cons_zero, List.getElem?_cons_succ, List.set_cons_zero, List.set_cons_succ, Option.bind_some, Option.bind_none, Option.map_some, Option.map_none, if_true, if_false, Bool.false_eq_true, if_pos, List.map_cons, List.map_nil, add_int, sub_int, negD, notD, boolOf, isD, isntD, isNone, Tg.put, Tg.puts, Nat.add_one_sub_one, Nat.sub_self, Nat.zero_add, Nat.reduceAdd, Nat.reduceSub, mul_r (show (7919 : Int).natAbs < 18446744073709551616 by decide), mul_r (show (104729 : Int).natAbs < 18446744073709551616 by decide), mul_r (show (31337 : Int).natAbs < 18446744073709551616 by decide),
    mod_p (show (0 : Int) < 2147483647 by decide), mod_p (show (0 : Int) < 65521 by decide), mod_p (show (0 : Int) < 9973 by decide), mod_p (show (0 : Int) < 998244353 by decide), div_ok (divOk_of (show (0 : Int) < 1009 by decide) (by decide)), div_ok (divOk_of (show (0 : Int) < 11 by decide) (by decide)), mul_l (show ((x * 7919 + t * 104729 + 17) % 2147483647).natAbs < 18446744073709551616 from b1)]
  rfl
structure Box where
  cells : List Int
  i : Nat
  rest : Int
  turn : Int
  seed : Int
def bD (b : Box) : D := .list [.list (b.cells.map PyData.int), .int (b.i : Int), .int b.rest, .int b.turn, .int b.seed]
def box0 (ns : List Int) : Box := ⟨ns, 0, 0, 0, seedOf ns⟩
theorem boxD_eq (ns : List Int) : boxD ns = bD (box0 ns) := rfl
def take (b : Box) (m : Int) : Int × Box :=
  if 0 < b.rest then (b.rest % m, { b with turn := b.turn + 1, rest := b.rest / m })
  else if b.cells.length ≤ b.i then (mixed b.seed (b.turn + 1) % m, { b with turn := b.turn + 1 })
  else if b.cells.getD b.i 0 < 1000000000000000000 then (mixed (b.cells.getD b.i 0 + b.seed) (b.turn + 1) % m, { b with turn := b.turn + 1, i := b.i + 1 })
  else (b.cells.getD b.i 0 % m, { b with turn := b.turn + 1, i := b.i + 1, rest := b.cells.getD b.i 0 / m })
theorem take_nn (b : Box) {m : Int} (h : 0 < m) : 0 ≤ (take b m).1 := by
  unfold take
  split
  · exact Int.emod_nonneg _ (by omega)
  · split
    · exact Int.emod_nonneg _ (by omega)
    · split
      · exact Int.emod_nonneg _ (by omega)
      · exact Int.emod_nonneg _ (by omega)
theorem take_lt (b : Box) {m : Int} (h : 0 < m) : (take b m).1 < m := by
  unfold take
  split
  · exact Int.emod_lt_of_pos _ h
  · split
    · exact Int.emod_lt_of_pos _ h
    · split
      · exact Int.emod_lt_of_pos _ h
      · exact Int.emod_lt_of_pos _ h
theorem ix0 {a b c d e : D} : ixD (.list [a, b, c, d, e]) (.int 0) = some a := rfl
theorem ix1 {a b c d e : D} : ixD (.list [a, b, c, d, e]) (.int 1) = some b := rfl
theorem ix2 {a b c d e : D} : ixD (.list [a, b, c, d, e]) (.int 2) = some c := rfl
theorem ix3 {a b c d e : D} : ixD (.list [a, b, c, d, e]) (.int 3) = some d := rfl
theorem ix4 {a b c d e : D} : ixD (.list [a, b, c, d, e]) (.int 4) = some e := rfl
theorem iN1 : ixN 5 1 = some 1 := rfl
theorem iN2 : ixN 5 2 = some 2 := rfl
theorem iN3 : ixN 5 3 = some 3 := rfl
theorem ix_at {ds : List D} {i : Nat} {d : D} (h : ds[i]? = some d) : ixD (.list ds) (.int (i : Int)) = some d := atI_nat h
theorem gtI (i j : Int) : cmpI (fun i j => decide (j < i)) (.int i) (.int j) = some (.bool (decide (j < i))) := rfl
theorem geI (i j : Int) : cmpI (fun i j => decide (j ≤ i)) (.int i) (.int j) = some (.bool (decide (j ≤ i))) := rfl
theorem ltI (i j : Int) : cmpI (fun i j => decide (i < j)) (.int i) (.int j) = some (.bool (decide (i < j))) := rfl
theorem leI (i j : Int) : cmpI (fun i j => decide (i ≤ j)) (.int i) (.int j) = some (.bool (decide (i ≤ j))) := rfl
theorem lenL (ds : List D) : lenD (.list ds) = some (.int ds.length) := rfl
theorem lenT (ds : List D) : lenD (.tuple ds) = some (.int ds.length) := rfl
theorem pow18 : powD (.int 10) (.int 18) = some (.int 1000000000000000000) := pow_n (n := 18) (by decide) (by decide)
theorem pow30 : powD (.int 10) (.int 30) = some (.int 1000000000000000000000000000000) := pow_n (n := 30) (by decide) (by decide)
theorem pow20 : powD (.int 10) (.int 20) = some (.int 100000000000000000000) := pow_n (n := 20) (by decide) (by decide)
theorem pow19 : powD (.int 10) (.int 19) = some (.int 10000000000000000000) := pow_n (n := 19) (by decide) (by decide)
theorem take_eq (b : Box) {m : Int} (h : 0 < m) (h2 : m < 1000000000000000000000) : F__law_take (bD b) [.int m] = .ok (.int (take b m).1) false (bD (take b m).2) := by
  have dv : ∀ x : Int, divD (.int x) (.int m) = some (.int (x / m)) := fun x => div_ok (divOk_of h h2)
  have md : ∀ x : Int, modD (.int x) (.int m) = some (.int (x % m)) := fun x => mod_p h
  obtain ⟨cells, i, rest, turn, seed⟩ := b
  by_cases c1 : 0 < rest
  · simp only [F__law_take, f__law_take, bD, take, runD, runO, out0, slots0, List.replicate, List.append_nil, List.cons_append, List.nil_append, List.length_cons, List.length_nil, retS, retC, retO, retN, seqS, ifS, asg, asgO, exprS, appS, setS, augS, asgT, raiseS, nxS, op1, op2, op2C, tst, andF, orF, ifF, andB, orB, notB, chF, cst, vr, frz, frC, lstC, tupF, consF, nilF, bltF, bltC, one_d, bind_ok, bind_er, bind_bad, then_ok, then_er, then_bad, opt_some, opt_none, Vl.get, Slot.get, Slot.put, Slot.cont, Slot.lst, Slot.mut, Slot.shal, stables, sh, gets, argD, argB, callF, callO, callC, callB, callW, pick, Pk.of, and_self, boxC, partF, slF, srcF, srcR1, srcR2, srcZ, forS, popF, noEr_ok, noEr_er, yes, List.getElem?_cons_zero, List.getElem?_cons_succ, List.set_cons_zero, List.set_cons_succ, Option.bind_some, Option.bind_none, Option.map_some, Option.map_none, if_true, if_false, Bool.false_eq_true, if_pos, List.map_cons, List.map_nil, add_int, sub_int, negD, notD, boolOf, isD, isntD, isNone, Tg.put, Tg.puts, Nat.add_one_sub_one, Nat.sub_self, Nat.zero_add, Nat.reduceAdd, Nat.reduceSub, ix0, ix1, ix2, ix3, ix4, iN1, iN2, iN3, gtI, decide_eq_true c1, dv, md, if_pos c1]
    try rfl
  · by_cases c2 : cells.length ≤ i
    · have c2' : ((cells.map PyData.int).length : Int) ≤ (i : Int) := by rw [List.length_map]; omega
      simp only [F__law_take, f__law_take, bD, take, runD, runO, out0, slots0, List.replicate, List.append_nil, List.cons_append, List.nil_append, List.length_cons, List.length_nil, retS, retC, retO, retN, seqS, ifS, asg, asgO, exprS, appS, setS, augS, asgT, raiseS, nxS, op1, op2, op2C, tst, andF, orF, ifF, andB, orB, notB, chF, cst, vr, frz, frC, lstC, tupF, consF, nilF, bltF, bltC, one_d, bind_ok, bind_er, bind_bad, then_ok, then_er, then_bad, opt_some, opt_none, Vl.get, Slot.get, Slot.put, Slot.cont, Slot.lst, Slot.mut, Slot.shal, stables, sh, gets, argD, argB, callF, callO, callC, callB, callW, pick, Pk.of, and_self, boxC, partF, slF, srcF, srcR1, srcR2, srcZ, forS, popF, noEr_ok, noEr_er, yes, List.getElem?_cons_zero, List.getElem?_cons_succ, List.set_cons_zero, List.set_cons_succ, Option.bind_some, Option.bind_none, Option.map_some, Option.map_none, if_true, if_false, Bool.false_eq_true, if_pos, List.map_cons, List.map_nil, add_int, sub_int, negD, notD, boolOf, isD, isntD, isNone, Tg.put, Tg.puts, Nat.add_one_sub_one, Nat.sub_self, Nat.zero_add, Nat.reduceAdd, Nat.reduceSub, ix0, ix1, ix2, ix3, ix4, iN1, iN2, iN3, gtI, geI, lenL, decide_eq_false c1, decide_eq_true c2', dv, md, mixed_eq, if_neg c1, if_pos c2]
      try rfl
    · have c2' : ¬ ((cells.map PyData.int).length : Int) ≤ (i : Int) := by rw [List.length_map]; omega
      have e : ixD (.list (cells.map PyData.int)) (.int (i : Int)) = some (.int (cells.getD i 0)) := by
        refine ix_at ?_
        rw [List.getElem?_map, List.getElem?_eq_getElem (by omega), List.getD_eq_getElem?_getD, List.getElem?_eq_getElem (by omega)]
        try rfl
      by_cases c3 : cells.getD i 0 < 1000000000000000000
      · simp only [F__law_take, f__law_take, bD, take, runD, runO, out0, slots0, List.replicate, List.append_nil, List.cons_append, List.nil_append, List.length_cons, List.length_nil, retS, retC, retO, retN, seqS, ifS, asg, asgO, exprS, appS, setS, augS, asgT, raiseS, nxS, op1, op2, op2C, tst, andF, orF, ifF, andB, orB, notB, chF, cst, vr, frz, frC, lstC, tupF, consF, nilF, bltF, bltC, one_d, bind_ok, bind_er, bind_bad, then_ok, then_er, then_bad, opt_some, opt_none, Vl.get, Slot.get, Slot.put, Slot.cont, Slot.lst, Slot.mut, Slot.shal, stables, sh, gets, argD, argB, callF, callO, callC, callB, callW, pick, Pk.of, and_self, boxC, partF, slF, srcF, srcR1, srcR2, srcZ, forS, popF, noEr_ok, noEr_er, yes, List.getElem?_cons_zero, List.getElem?_cons_succ, List.set_cons_zero, List.set_cons_succ, Option.bind_some, Option.bind_none, Option.map_some, Option.map_none, if_true, if_false, Bool.false_eq_true, if_pos, List.map_cons, List.map_nil, add_int, sub_int, negD, notD, boolOf, isD, isntD, isNone, Tg.put, Tg.puts, Nat.add_one_sub_one, Nat.sub_self, Nat.zero_add, Nat.reduceAdd, Nat.reduceSub, ix0, ix1, ix2, ix3, ix4, iN1, iN2, iN3, gtI, geI, ltI, lenL, decide_eq_false c1, decide_eq_false c2', decide_eq_true c3, e, pow18, dv, md, mixed_eq, if_neg c1, if_neg c2, if_pos c3]
        try rfl
      · simp only [F__law_take, f__law_take, bD, take, runD, runO, out0, slots0, List.replicate, List.append_nil, List.cons_append, List.nil_append, List.length_cons, List.length_nil, retS, retC, retO, retN, seqS, ifS, asg, asgO, exprS, appS, setS, augS, asgT, raiseS, nxS, op1, op2, op2C, tst, andF, orF, ifF, andB, orB, notB, chF, cst, vr, frz, frC, lstC, tupF, consF, nilF, bltF, bltC, one_d, bind_ok, bind_er, bind_bad, then_ok, then_er, then_bad, opt_some, opt_none, Vl.get, Slot.get, Slot.put, Slot.cont, Slot.lst, Slot.mut, Slot.shal, stables, sh, gets, argD, argB, callF, callO, callC, callB, callW, pick, Pk.of, and_self, boxC, partF, slF, srcF, srcR1, srcR2, srcZ, forS, popF, noEr_ok, noEr_er, yes, List.getElem?_cons_zero, List.getElem?_cons_succ, List.set_cons_zero, List.set_cons_succ, Option.bind_some, Option.bind_none, Option.map_some, Option.map_none, if_true, if_false, Bool.false_eq_true, if_pos, List.map_cons, List.map_nil, add_int, sub_int, negD, notD, boolOf, isD, isntD, isNone, Tg.put, Tg.puts, Nat.add_one_sub_one, Nat.sub_self, Nat.zero_add, Nat.reduceAdd, Nat.reduceSub, ix0, ix1, ix2, ix3, ix4, iN1, iN2, iN3, gtI, geI, ltI, lenL, decide_eq_false c1, decide_eq_false c2', decide_eq_false c3, e, pow18, dv, md, mixed_eq, if_neg c1, if_neg c2, if_neg c3]
        try rfl
/-! ### loops -/
def SO.step (o : SO) (Q : En → Prop) : Prop := match o with
  | .nx ρ => Q ρ
  | .ct ρ => Q ρ
  | _ => False
theorem step_nx {ρ : En} {Q : En → Prop} : SO.step (.nx ρ) Q = Q ρ := rfl
theorem step_ct {ρ : En} {Q : En → Prop} : SO.step (.ct ρ) Q = Q ρ := rfl
theorem for_run {t : Tg} {body : SF} : ∀ (ds : List D) (ρ : En) (I : Nat → En → Prop), I 0 ρ →
    (∀ k d ρ, ds[k]? = some d → I k ρ → ∃ ρ1, Tg.put t d ρ = some ρ1 ∧ SO.step (body ρ1) (I (k + 1))) → ∃ ρ', forLoop t body ds ρ = .nx ρ' ∧ I ds.length ρ'
  | [], ρ, I, h0, _ => ⟨ρ, rfl, h0⟩
  | d :: ds, ρ, I, h0, hs => by
    obtain ⟨ρ1, e1, h1⟩ := hs 0 d ρ rfl h0
    unfold forLoop
    rw [e1]
    dsimp only
    cases e2 : body ρ1 with
    | nx ρ2 =>
      rw [e2] at h1
      obtain ⟨ρ', a, b⟩ := for_run ds ρ2 (fun k => I (k + 1)) h1 fun k d ρ e i => hs (k + 1) d ρ e i
      exact ⟨ρ', a, b⟩
    | ct ρ2 =>
      rw [e2] at h1
      obtain ⟨ρ', a, b⟩ := for_run ds ρ2 (fun k => I (k + 1)) h1 fun k d ρ e i => hs (k + 1) d ρ e i
      exact ⟨ρ', a, b⟩
    | _ => rw [e2] at h1; exact h1.elim
/-- f runs through, into Q -/
def Nx (f : SF) (ρ : En) (Q : En → Prop) : Prop := ∃ ρ', f ρ = .nx ρ' ∧ Q ρ'
def Rt (f : SF) (ρ : En) : Prop := ∃ ρ', f ρ = .rt (.bool true) false ρ'
theorem Nx.seq {f g : SF} {ρ : En} {P Q : En → Prop} (h : Nx f ρ P) (k : ∀ ρ', P ρ' → Nx g ρ' Q) : Nx (seqS f g) ρ Q := by
  obtain ⟨ρ', e, p⟩ := h
  obtain ⟨ρ2, e2, q⟩ := k ρ' p
  exact ⟨ρ2, by simp only [seqS, e, e2], q⟩
theorem Rt.seq {f g : SF} {ρ : En} {P : En → Prop} (h : Nx f ρ P) (k : ∀ ρ', P ρ' → Rt g ρ') : Rt (seqS f g) ρ := by
  obtain ⟨ρ', e, p⟩ := h
  obtain ⟨ρ2, e2⟩ := k ρ' p
  exact ⟨ρ2, by simp only [seqS, e, e2]⟩
theorem Nx.of {f : SF} {ρ : En} {Q : En → Prop} (h : SO.step (f ρ) Q) (n : ∀ ρ', f ρ ≠ .ct ρ') : Nx f ρ Q := by
  cases e : f ρ with
  | nx r => rw [e] at h; exact ⟨r, e, h⟩
  | ct r => exact absurd e (n r)
  | _ => rw [e] at h; exact h.elim
theorem Nx.eq {f : SF} {ρ ρ' : En} {Q : En → Prop} (h : f ρ = .nx ρ') (q : Q ρ') : Nx f ρ Q := ⟨ρ', h, q⟩
theorem Nx.for_ {t : Tg} {src : En → O (List D)} {body : SF} {ρ ρ1 : En} {ds : List D} {Q : En → Prop} (I : Nat → En → Prop) (e : src ρ = .ok ds ρ1) (h0 : I 0 ρ1)
    (hs : ∀ k d ρ, ds[k]? = some d → I k ρ → ∃ ρ1, Tg.put t d ρ = some ρ1 ∧ SO.step (body ρ1) (I (k + 1))) (hq : ∀ ρ, I ds.length ρ → Q ρ) : Nx (forS t src body) ρ Q := by
  obtain ⟨ρ', a, b⟩ := for_run ds ρ1 I h0 hs
  exact ⟨ρ', by unfold forS; rw [e]; exact a, hq _ b⟩
/-! ### the box -/
theorem law_box_run (a : Addr) (ns : List Int) (h : ns.length ≤ 63) : ∃ ρ1, f_law_box a ns (.fn a :: List.replicate (N__law_box.length - 1) .un) = .rt (boxD ns) true ρ1 := by
  have loop : ∀ (ns : List Int) (s : Int) (x : Slot), ∃ y, forLoop (.nm 2) (asg 1 (op2 modD (op2 addD (op2 addD (op2 mulD (vr 1) (cst (.int 48271))) (op2 modD (vr 2) (cst (.int 1000003)))) (cst (.int 11))) (cst (.int 2147483647)))) (ns.map PyData.int) [.fn a, .val (.int s), x]
      = .nx [.fn a, .val (.int (ns.foldl (fun s c => (s * 48271 + c % 1000003 + 11) % 2147483647) s)), y] := by
    intro ns
    induction ns with
    | nil => exact fun s x => ⟨x, rfl⟩
    | cons n ns ih =>
      intro s x
      obtain ⟨y, hy⟩ := ih ((s * 48271 + n % 1000003 + 11) % 2147483647) (.val (.int n))
      refine ⟨y, ?_⟩
      simp only [List.map_cons, forLoop, runD, runO, out0, slots0, List.replicate, List.append_nil, List.cons_append, List.nil_append, List.length_cons, List.length_nil, retS, retC, retO, retN, seqS, ifS, asg, asgO, exprS, appS, setS, augS, asgT, raiseS, nxS, op1, op2, op2C, tst, andF, orF, ifF, andB, orB, notB, chF, cst, vr, frz, frC, lstC, tupF, consF, nilF, bltF, bltC, one_d, bind_ok, bind_er, bind_bad, then_ok, then_er, then_bad, opt_some, opt_none, Vl.get, Slot.get, Slot.put, Slot.cont, Slot.lst, Slot.mut, Slot.shal, stables, sh, gets, argD, argB, callF, callO, callC, callB, callW, pick, Pk.of, and_self, boxC, partF, slF, srcF, srcR1, srcR2, srcZ, forS, popF, noEr_ok, noEr_er, yes, List.getElem?_cons_zero, List.getElem?_cons_succ, List.set_cons_zero, List.set_cons_succ, Option.bind_some, Option.bind_none, Option.map_some, Option.map_none, if_true, if_false, Bool.false_eq_true, if_pos, List.map_cons, List.map_nil, add_int, sub_int, negD, notD, boolOf, isD, isntD, isNone, Tg.put, Tg.puts, Nat.add_one_sub_one, Nat.sub_self, Nat.zero_add, Nat.reduceAdd, Nat.reduceSub, mul_r (show (48271 : Int).natAbs < 18446744073709551616 by decide), mod_p (show (0 : Int) < 1000003 by decide), mod_p (show (0 : Int) < 2147483647 by decide)]
      exact hy
  obtain ⟨y, hy⟩ := loop ns 7 .un
  have hs : short (ns.map PyData.int) = true := decide_eq_true (by rw [List.length_map]; omega)
  refine ⟨[.fn a, .val (.int (seedOf ns)), y], ?_⟩
  have e0 : (Slot.fn a :: List.replicate (N__law_box.length - 1) Slot.un) = [.fn a, .un, .un] := rfl
  rw [e0]
  simp only [f_law_box, runD, runO, out0, slots0, List.replicate, List.append_nil, List.cons_append, List.nil_append, List.length_cons, List.length_nil, retS, retC, retO, retN, seqS, ifS, asg, asgO, exprS, appS, setS, augS, asgT, raiseS, nxS, op1, op2, op2C, tst, andF, orF, ifF, andB, orB, notB, chF, cst, vr, frz, frC, lstC, tupF, consF, nilF, bltF, bltC, one_d, bind_ok, bind_er, bind_bad, then_ok, then_er, then_bad, opt_some, opt_none, Vl.get, Slot.get, Slot.put, Slot.cont, Slot.lst, Slot.mut, Slot.shal, stables, sh, gets, argD, argB, callF, callO, callC, callB, callW, pick, Pk.of, and_self, boxC, partF, slF, srcF, srcR1, srcR2, srcZ, forS, popF, noEr_ok, noEr_er, yes, List.getElem?_cons_zero, List.getElem?_cons_succ, List.set_cons_zero, List.set_cons_succ, Option.bind_some, Option.bind_none, Option.map_some, Option.map_none, if_true, if_false, Bool.false_eq_true, if_pos, List.map_cons, List.map_nil, add_int, sub_int, negD, notD, boolOf, isD, isntD, isNone, Tg.put, Tg.puts, Nat.add_one_sub_one, Nat.sub_self, Nat.zero_add, Nat.reduceAdd, Nat.reduceSub, scrF, hy]
  simp only [listD, sh, hs, runD, runO, out0, slots0, List.replicate, List.append_nil, List.cons_append, List.nil_append, List.length_cons, List.length_nil, retS, retC, retO, retN, seqS, ifS, asg, asgO, exprS, appS, setS, augS, asgT, raiseS, nxS, op1, op2, op2C, tst, andF, orF, ifF, andB, orB, notB, chF, cst, vr, frz, frC, lstC, tupF, consF, nilF, bltF, bltC, one_d, bind_ok, bind_er, bind_bad, then_ok, then_er, then_bad, opt_some, opt_none, Vl.get, Slot.get, Slot.put, Slot.cont, Slot.lst, Slot.mut, Slot.shal, stables, sh, gets, argD, argB, callF, callO, callC, callB, callW, pick, Pk.of, and_self, boxC, partF, slF, srcF, srcR1, srcR2, srcZ, forS, popF, noEr_ok, noEr_er, yes, List.getElem?_cons_zero, List.getElem?_cons_succ, List.set_cons_zero, List.set_cons_succ, Option.bind_some, Option.bind_none, Option.map_some, Option.map_none, if_true, if_false, Bool.false_eq_true, if_pos, List.map_cons, List.map_nil, add_int, sub_int, negD, notD, boolOf, isD, isntD, isNone, Tg.put, Tg.puts, Nat.add_one_sub_one, Nat.sub_self, Nat.zero_add, Nat.reduceAdd, Nat.reduceSub]
  rfl
/-! ### the same -/
def smOk : Nat → D → Bool
  | 0, _ => false
  | n + 1, .list ds => decide (ds.length ≤ 100000) && ds.all (smOk n)
  | n + 1, .tuple ds => decide (ds.length ≤ 100000) && ds.all (smOk n)
  | _ + 1, .dict _ => false
  | _ + 1, .str x => SeqAt.shaped (.str x)
  | _ + 1, _ => true
theorem eq_int (i j : Int) : eqD (.int i) (.int j) = some (.bool (i == j)) := by
  unfold eqD
  rw [if_pos (show eqOk (.int i) (.int j) = true from rfl)]
  rfl
theorem eq_bool (i j : Bool) : eqD (.bool i) (.bool j) = some (.bool (i == j)) := by
  unfold eqD
  rw [if_pos (show eqOk (.bool i) (.bool j) = true from rfl)]
  rfl
theorem eq_str {i j : Str} (h : SeqAt.shaped (.str i) = true) (h2 : SeqAt.shaped (.str j) = true) : eqD (.str i) (.str j) = some (.bool (i == j)) := by
  unfold eqD
  rw [if_pos (show eqOk (.str i) (.str j) = true by unfold eqOk; rw [h, h2]; rfl)]
  rfl
theorem ne_int (i j : Int) : neD (.int i) (.int j) = some (.bool (!(i == j))) := by
  unfold neD
  rw [if_pos (show eqOk (.int i) (.int j) = true from rfl)]
  rfl
theorem ne_bool (i j : Bool) : neD (.bool i) (.bool j) = some (.bool (!(i == j))) := by
  unfold neD
  rw [if_pos (show eqOk (.bool i) (.bool j) = true from rfl)]
  rfl
theorem rng_at {lo hi : Int} {k : Nat} {d : D} (h : (rng lo hi)[k]? = some d) : d = .int (lo + (k : Int)) ∧ lo + (k : Int) < hi := by
  unfold rng at h
  rw [List.getElem?_map] at h
  cases e : (List.range (hi - lo).toNat)[k]? with
  | none => rw [e] at h; cases h
  | some j =>
    rw [e] at h
    have e2 := List.getElem?_eq_some_iff.mp e
    obtain ⟨h1, h2⟩ := e2
    rw [List.getElem_range] at h2
    rw [List.length_range] at h1
    subst h2
    cases h
    exact ⟨rfl, by omega⟩
theorem rng_len (lo hi : Int) : (rng lo hi).length = (hi - lo).toNat := by
  unfold rng
  rw [List.length_map, List.length_range]
theorem any_ints (i : Int) (ns : List Int) : ((ns.map PyData.int).any fun z => PyData.eqv z (.int i)) = ns.any (· == i) := by
  rw [List.any_map]
  rfl
theorem in_tints (i : Int) (ns : List Int) : inD (.int i) (.tuple (ns.map PyData.int)) = some (.bool (ns.any (· == i))) := by
  show (if flat (.int i) = true ∧ (ns.map PyData.int).all flat = true then some (PyData.bool ((ns.map PyData.int).any fun z => z.eqv (.int i))) else none) = _
  rw [if_pos ⟨rfl, List.all_eq_true.mpr fun d m => by obtain ⟨j, _, e⟩ := List.mem_map.mp m; subst e; rfl⟩, any_ints]
theorem box_start (a : Addr) (ns : List Int) (ρ : En) : asgO 1 (boxC a (boxD ns) (consF (vr 0) nilF)) (.fn a :: ρ) = .nx (.fn a :: ρ.set 0 (.own (bD (box0 ns)))) := by
  simp only [runD, runO, out0, slots0, List.replicate, List.append_nil, List.cons_append, List.nil_append, List.length_cons, List.length_nil, retS, retC, retO, retN, seqS, ifS, asg, asgO, exprS, appS, setS, augS, asgT, raiseS, nxS, op1, op2, op2C, tst, andF, orF, ifF, andB, orB, notB, chF, cst, vr, frz, frC, lstC, tupF, consF, nilF, bltF, bltC, one_d, bind_ok, bind_er, bind_bad, then_ok, then_er, then_bad, opt_some, opt_none, Vl.get, Slot.get, Slot.put, Slot.cont, Slot.lst, Slot.mut, Slot.shal, stables, sh, gets, argD, argB, callF, callO, callC, callB, callW, pick, Pk.of, and_self, boxC, partF, slF, srcF, srcR1, srcR2, srcZ, forS, popF, noEr_ok, noEr_er, yes, List.getElem?_cons_zero, List.getElem?_cons_succ, List.set_cons_zero, List.set_cons_succ, Option.bind_some, Option.bind_none, Option.map_some, Option.map_none, if_true, if_false, Bool.false_eq_true, if_pos, List.map_cons, List.map_nil, add_int, sub_int, negD, notD, boolOf, isD, isntD, isNone, Tg.put, Tg.puts, Nat.add_one_sub_one, Nat.sub_self, Nat.zero_add, Nat.reduceAdd, Nat.reduceSub, ← boxD_eq]
theorem at_pick {xs : List Int} {i : Int} (h : 0 ≤ i) (h2 : i < xs.length) : (xs.map PyData.int)[i.toNat]? = some (.int (xs.getD i.toNat 0)) := by
  rw [List.getElem?_map, List.getElem?_eq_getElem (by omega), List.getD_eq_getElem?_getD, List.getElem?_eq_getElem (by omega)]
  rfl
theorem ix_pick (xs : List Int) {i : Int} (h : 0 ≤ i) (h2 : i < xs.length) : ixD (.list (xs.map PyData.int)) (.int i) = some (.int (xs.getD i.toNat 0)) := by
  have e := at_pick h h2
  have e2 : ((i.toNat : Nat) : Int) = i := Int.toNat_of_nonneg h
  rw [← e2]
  exact atI_nat e
theorem iy_pick (xs : List Int) {i : Int} (h : 0 ≤ i) (h2 : i < xs.length) : ixD (.tuple (xs.map PyData.int)) (.int i) = some (.int (xs.getD i.toNat 0)) := by
  have e := at_pick h h2
  have e2 : ((i.toNat : Nat) : Int) = i := Int.toNat_of_nonneg h
  rw [← e2]
  exact atI_nat e
theorem ixp8 {a0 a1 a2 a3 a4 a5 a6 a7 i : Int} (h : 0 ≤ i) (h2 : i < 8) : ixD (.list [.int a0, .int a1, .int a2, .int a3, .int a4, .int a5, .int a6, .int a7]) (.int i) = some (.int ([a0, a1, a2, a3, a4, a5, a6, a7].getD i.toNat 0)) := ix_pick [a0, a1, a2, a3, a4, a5, a6, a7] h h2
theorem ixq8 {a0 a1 a2 a3 a4 a5 a6 a7 i : Int} (h : 0 ≤ i) (h2 : i < 8) : ixD (.tuple [.int a0, .int a1, .int a2, .int a3, .int a4, .int a5, .int a6, .int a7]) (.int i) = some (.int ([a0, a1, a2, a3, a4, a5, a6, a7].getD i.toNat 0)) := iy_pick [a0, a1, a2, a3, a4, a5, a6, a7] h h2
theorem ixp9 {a0 a1 a2 a3 a4 a5 a6 a7 a8 i : Int} (h : 0 ≤ i) (h2 : i < 9) : ixD (.list [.int a0, .int a1, .int a2, .int a3, .int a4, .int a5, .int a6, .int a7, .int a8]) (.int i) = some (.int ([a0, a1, a2, a3, a4, a5, a6, a7, a8].getD i.toNat 0)) := ix_pick [a0, a1, a2, a3, a4, a5, a6, a7, a8] h h2
theorem ixq9 {a0 a1 a2 a3 a4 a5 a6 a7 a8 i : Int} (h : 0 ≤ i) (h2 : i < 9) : ixD (.tuple [.int a0, .int a1, .int a2, .int a3, .int a4, .int a5, .int a6, .int a7, .int a8]) (.int i) = some (.int ([a0, a1, a2, a3, a4, a5, a6, a7, a8].getD i.toNat 0)) := iy_pick [a0, a1, a2, a3, a4, a5, a6, a7, a8] h h2
theorem ixp10 {a0 a1 a2 a3 a4 a5 a6 a7 a8 a9 i : Int} (h : 0 ≤ i) (h2 : i < 10) : ixD (.list [.int a0, .int a1, .int a2, .int a3, .int a4, .int a5, .int a6, .int a7, .int a8, .int a9]) (.int i) = some (.int ([a0, a1, a2, a3, a4, a5, a6, a7, a8, a9].getD i.toNat 0)) := ix_pick [a0, a1, a2, a3, a4, a5, a6, a7, a8, a9] h h2
theorem ixq10 {a0 a1 a2 a3 a4 a5 a6 a7 a8 a9 i : Int} (h : 0 ≤ i) (h2 : i < 10) : ixD (.tuple [.int a0, .int a1, .int a2, .int a3, .int a4, .int a5, .int a6, .int a7, .int a8, .int a9]) (.int i) = some (.int ([a0, a1, a2, a3, a4, a5, a6, a7, a8, a9].getD i.toNat 0)) := iy_pick [a0, a1, a2, a3, a4, a5, a6, a7, a8, a9] h h2
theorem ixp11 {a0 a1 a2 a3 a4 a5 a6 a7 a8 a9 a10 i : Int} (h : 0 ≤ i) (h2 : i < 11) : ixD (.list [.int a0, .int a1, .int a2, .int a3, .int a4, .int a5, .int a6, .int a7, .int a8, .int a9, .int a10]) (.int i) = some (.int ([a0, a1, a2, a3, a4, a5, a6, a7, a8, a9, a10].getD i.toNat 0)) := ix_pick [a0, a1, a2, a3, a4, a5, a6, a7, a8, a9, a10] h h2
theorem ixq11 {a0 a1 a2 a3 a4 a5 a6 a7 a8 a9 a10 i : Int} (h : 0 ≤ i) (h2 : i < 11) : ixD (.tuple [.int a0, .int a1, .int a2, .int a3, .int a4, .int a5, .int a6, .int a7, .int a8, .int a9, .int a10]) (.int i) = some (.int ([a0, a1, a2, a3, a4, a5, a6, a7, a8, a9, a10].getD i.toNat 0)) := iy_pick [a0, a1, a2, a3, a4, a5, a6, a7, a8, a9, a10] h h2
theorem ixp12 {a0 a1 a2 a3 a4 a5 a6 a7 a8 a9 a10 a11 i : Int} (h : 0 ≤ i) (h2 : i < 12) : ixD (.list [.int a0, .int a1, .int a2, .int a3, .int a4, .int a5, .int a6, .int a7, .int a8, .int a9, .int a10, .int a11]) (.int i) = some (.int ([a0, a1, a2, a3, a4, a5, a6, a7, a8, a9, a10, a11].getD i.toNat 0)) := ix_pick [a0, a1, a2, a3, a4, a5, a6, a7, a8, a9, a10, a11] h h2
theorem ixq12 {a0 a1 a2 a3 a4 a5 a6 a7 a8 a9 a10 a11 i : Int} (h : 0 ≤ i) (h2 : i < 12) : ixD (.tuple [.int a0, .int a1, .int a2, .int a3, .int a4, .int a5, .int a6, .int a7, .int a8, .int a9, .int a10, .int a11]) (.int i) = some (.int ([a0, a1, a2, a3, a4, a5, a6, a7, a8, a9, a10, a11].getD i.toNat 0)) := iy_pick [a0, a1, a2, a3, a4, a5, a6, a7, a8, a9, a10, a11] h h2
theorem ixp13 {a0 a1 a2 a3 a4 a5 a6 a7 a8 a9 a10 a11 a12 i : Int} (h : 0 ≤ i) (h2 : i < 13) : ixD (.list [.int a0, .int a1, .int a2, .int a3, .int a4, .int a5, .int a6, .int a7, .int a8, .int a9, .int a10, .int a11, .int a12]) (.int i) = some (.int ([a0, a1, a2, a3, a4, a5, a6, a7, a8, a9, a10, a11, a12].getD i.toNat 0)) := ix_pick [a0, a1, a2, a3, a4, a5, a6, a7, a8, a9, a10, a11, a12] h h2
theorem ixq13 {a0 a1 a2 a3 a4 a5 a6 a7 a8 a9 a10 a11 a12 i : Int} (h : 0 ≤ i) (h2 : i < 13) : ixD (.tuple [.int a0, .int a1, .int a2, .int a3, .int a4, .int a5, .int a6, .int a7, .int a8, .int a9, .int a10, .int a11, .int a12]) (.int i) = some (.int ([a0, a1, a2, a3, a4, a5, a6, a7, a8, a9, a10, a11, a12].getD i.toNat 0)) := iy_pick [a0, a1, a2, a3, a4, a5, a6, a7, a8, a9, a10, a11, a12] h h2
theorem ixp14 {a0 a1 a2 a3 a4 a5 a6 a7 a8 a9 a10 a11 a12 a13 i : Int} (h : 0 ≤ i) (h2 : i < 14) : ixD (.list [.int a0, .int a1, .int a2, .int a3, .int a4, .int a5, .int a6, .int a7, .int a8, .int a9, .int a10, .int a11, .int a12, .int a13]) (.int i) = some (.int ([a0, a1, a2, a3, a4, a5, a6, a7, a8, a9, a10, a11, a12, a13].getD i.toNat 0)) := ix_pick [a0, a1, a2, a3, a4, a5, a6, a7, a8, a9, a10, a11, a12, a13] h h2
theorem ixq14 {a0 a1 a2 a3 a4 a5 a6 a7 a8 a9 a10 a11 a12 a13 i : Int} (h : 0 ≤ i) (h2 : i < 14) : ixD (.tuple [.int a0, .int a1, .int a2, .int a3, .int a4, .int a5, .int a6, .int a7, .int a8, .int a9, .int a10, .int a11, .int a12, .int a13]) (.int i) = some (.int ([a0, a1, a2, a3, a4, a5, a6, a7, a8, a9, a10, a11, a12, a13].getD i.toNat 0)) := iy_pick [a0, a1, a2, a3, a4, a5, a6, a7, a8, a9, a10, a11, a12, a13] h h2
theorem ixp15 {a0 a1 a2 a3 a4 a5 a6 a7 a8 a9 a10 a11 a12 a13 a14 i : Int} (h : 0 ≤ i) (h2 : i < 15) : ixD (.list [.int a0, .int a1, .int a2, .int a3, .int a4, .int a5, .int a6, .int a7, .int a8, .int a9, .int a10, .int a11, .int a12, .int a13, .int a14]) (.int i) = some (.int ([a0, a1, a2, a3, a4, a5, a6, a7, a8, a9, a10, a11, a12, a13, a14].getD i.toNat 0)) := ix_pick [a0, a1, a2, a3, a4, a5, a6, a7, a8, a9, a10, a11, a12, a13, a14] h h2
theorem ixq15 {a0 a1 a2 a3 a4 a5 a6 a7 a8 a9 a10 a11 a12 a13 a14 i : Int} (h : 0 ≤ i) (h2 : i < 15) : ixD (.tuple [.int a0, .int a1, .int a2, .int a3, .int a4, .int a5, .int a6, .int a7, .int a8, .int a9, .int a10, .int a11, .int a12, .int a13, .int a14]) (.int i) = some (.int ([a0, a1, a2, a3, a4, a5, a6, a7, a8, a9, a10, a11, a12, a13, a14].getD i.toNat 0)) := iy_pick [a0, a1, a2, a3, a4, a5, a6, a7, a8, a9, a10, a11, a12, a13, a14] h h2
theorem ixp16 {a0 a1 a2 a3 a4 a5 a6 a7 a8 a9 a10 a11 a12 a13 a14 a15 i : Int} (h : 0 ≤ i) (h2 : i < 16) : ixD (.list [.int a0, .int a1, .int a2, .int a3, .int a4, .int a5, .int a6, .int a7, .int a8, .int a9, .int a10, .int a11, .int a12, .int a13, .int a14, .int a15]) (.int i) = some (.int ([a0, a1, a2, a3, a4, a5, a6, a7, a8, a9, a10, a11, a12, a13, a14, a15].getD i.toNat 0)) := ix_pick [a0, a1, a2, a3, a4, a5, a6, a7, a8, a9, a10, a11, a12, a13, a14, a15] h h2
theorem ixq16 {a0 a1 a2 a3 a4 a5 a6 a7 a8 a9 a10 a11 a12 a13 a14 a15 i : Int} (h : 0 ≤ i) (h2 : i < 16) : ixD (.tuple [.int a0, .int a1, .int a2, .int a3, .int a4, .int a5, .int a6, .int a7, .int a8, .int a9, .int a10, .int a11, .int a12, .int a13, .int a14, .int a15]) (.int i) = some (.int ([a0, a1, a2, a3, a4, a5, a6, a7, a8, a9, a10, a11, a12, a13, a14, a15].getD i.toNat 0)) := iy_pick [a0, a1, a2, a3, a4, a5, a6, a7, a8, a9, a10, a11, a12, a13, a14, a15] h h2
theorem sh0  : short [] = true := rfl
theorem sh1 {a0 : D} : short [a0] = true := rfl
theorem sh2 {a0 a1 : D} : short [a0, a1] = true := rfl
theorem sh3 {a0 a1 a2 : D} : short [a0, a1, a2] = true := rfl
theorem sh4 {a0 a1 a2 a3 : D} : short [a0, a1, a2, a3] = true := rfl
theorem sh5 {a0 a1 a2 a3 a4 : D} : short [a0, a1, a2, a3, a4] = true := rfl
theorem sh6 {a0 a1 a2 a3 a4 a5 : D} : short [a0, a1, a2, a3, a4, a5] = true := rfl
theorem sh7 {a0 a1 a2 a3 a4 a5 a6 : D} : short [a0, a1, a2, a3, a4, a5, a6] = true := rfl
theorem sh8 {a0 a1 a2 a3 a4 a5 a6 a7 : D} : short [a0, a1, a2, a3, a4, a5, a6, a7] = true := rfl
theorem sh9 {a0 a1 a2 a3 a4 a5 a6 a7 a8 : D} : short [a0, a1, a2, a3, a4, a5, a6, a7, a8] = true := rfl
theorem sh10 {a0 a1 a2 a3 a4 a5 a6 a7 a8 a9 : D} : short [a0, a1, a2, a3, a4, a5, a6, a7, a8, a9] = true := rfl
theorem sh11 {a0 a1 a2 a3 a4 a5 a6 a7 a8 a9 a10 : D} : short [a0, a1, a2, a3, a4, a5, a6, a7, a8, a9, a10] = true := rfl
theorem sh12 {a0 a1 a2 a3 a4 a5 a6 a7 a8 a9 a10 a11 : D} : short [a0, a1, a2, a3, a4, a5, a6, a7, a8, a9, a10, a11] = true := rfl
theorem sh13 {a0 a1 a2 a3 a4 a5 a6 a7 a8 a9 a10 a11 a12 : D} : short [a0, a1, a2, a3, a4, a5, a6, a7, a8, a9, a10, a11, a12] = true := rfl
theorem sh14 {a0 a1 a2 a3 a4 a5 a6 a7 a8 a9 a10 a11 a12 a13 : D} : short [a0, a1, a2, a3, a4, a5, a6, a7, a8, a9, a10, a11, a12, a13] = true := rfl
theorem sh15 {a0 a1 a2 a3 a4 a5 a6 a7 a8 a9 a10 a11 a12 a13 a14 : D} : short [a0, a1, a2, a3, a4, a5, a6, a7, a8, a9, a10, a11, a12, a13, a14] = true := rfl
theorem sh16 {a0 a1 a2 a3 a4 a5 a6 a7 a8 a9 a10 a11 a12 a13 a14 a15 : D} : short [a0, a1, a2, a3, a4, a5, a6, a7, a8, a9, a10, a11, a12, a13, a14, a15] = true := rfl
theorem ixp1 {a0 i : Int} (h : 0 ≤ i) (h2 : i < 1) : ixD (.list [.int a0]) (.int i) = some (.int ([a0].getD i.toNat 0)) := ix_pick [a0] h h2
theorem ixq1 {a0 i : Int} (h : 0 ≤ i) (h2 : i < 1) : ixD (.tuple [.int a0]) (.int i) = some (.int ([a0].getD i.toNat 0)) := iy_pick [a0] h h2
theorem ixp2 {a0 a1 i : Int} (h : 0 ≤ i) (h2 : i < 2) : ixD (.list [.int a0, .int a1]) (.int i) = some (.int ([a0, a1].getD i.toNat 0)) := ix_pick [a0, a1] h h2
theorem ixq2 {a0 a1 i : Int} (h : 0 ≤ i) (h2 : i < 2) : ixD (.tuple [.int a0, .int a1]) (.int i) = some (.int ([a0, a1].getD i.toNat 0)) := iy_pick [a0, a1] h h2
theorem ixp3 {a0 a1 a2 i : Int} (h : 0 ≤ i) (h2 : i < 3) : ixD (.list [.int a0, .int a1, .int a2]) (.int i) = some (.int ([a0, a1, a2].getD i.toNat 0)) := ix_pick [a0, a1, a2] h h2
theorem ixq3 {a0 a1 a2 i : Int} (h : 0 ≤ i) (h2 : i < 3) : ixD (.tuple [.int a0, .int a1, .int a2]) (.int i) = some (.int ([a0, a1, a2].getD i.toNat 0)) := iy_pick [a0, a1, a2] h h2
theorem ixp4 {a0 a1 a2 a3 i : Int} (h : 0 ≤ i) (h2 : i < 4) : ixD (.list [.int a0, .int a1, .int a2, .int a3]) (.int i) = some (.int ([a0, a1, a2, a3].getD i.toNat 0)) := ix_pick [a0, a1, a2, a3] h h2
theorem ixq4 {a0 a1 a2 a3 i : Int} (h : 0 ≤ i) (h2 : i < 4) : ixD (.tuple [.int a0, .int a1, .int a2, .int a3]) (.int i) = some (.int ([a0, a1, a2, a3].getD i.toNat 0)) := iy_pick [a0, a1, a2, a3] h h2
theorem ixp5 {a0 a1 a2 a3 a4 i : Int} (h : 0 ≤ i) (h2 : i < 5) : ixD (.list [.int a0, .int a1, .int a2, .int a3, .int a4]) (.int i) = some (.int ([a0, a1, a2, a3, a4].getD i.toNat 0)) := ix_pick [a0, a1, a2, a3, a4] h h2
theorem ixq5 {a0 a1 a2 a3 a4 i : Int} (h : 0 ≤ i) (h2 : i < 5) : ixD (.tuple [.int a0, .int a1, .int a2, .int a3, .int a4]) (.int i) = some (.int ([a0, a1, a2, a3, a4].getD i.toNat 0)) := iy_pick [a0, a1, a2, a3, a4] h h2
theorem ixp6 {a0 a1 a2 a3 a4 a5 i : Int} (h : 0 ≤ i) (h2 : i < 6) : ixD (.list [.int a0, .int a1, .int a2, .int a3, .int a4, .int a5]) (.int i) = some (.int ([a0, a1, a2, a3, a4, a5].getD i.toNat 0)) := ix_pick [a0, a1, a2, a3, a4, a5] h h2
theorem ixq6 {a0 a1 a2 a3 a4 a5 i : Int} (h : 0 ≤ i) (h2 : i < 6) : ixD (.tuple [.int a0, .int a1, .int a2, .int a3, .int a4, .int a5]) (.int i) = some (.int ([a0, a1, a2, a3, a4, a5].getD i.toNat 0)) := iy_pick [a0, a1, a2, a3, a4, a5] h h2
theorem ixp7 {a0 a1 a2 a3 a4 a5 a6 i : Int} (h : 0 ≤ i) (h2 : i < 7) : ixD (.list [.int a0, .int a1, .int a2, .int a3, .int a4, .int a5, .int a6]) (.int i) = some (.int ([a0, a1, a2, a3, a4, a5, a6].getD i.toNat 0)) := ix_pick [a0, a1, a2, a3, a4, a5, a6] h h2
theorem ixq7 {a0 a1 a2 a3 a4 a5 a6 i : Int} (h : 0 ≤ i) (h2 : i < 7) : ixD (.tuple [.int a0, .int a1, .int a2, .int a3, .int a4, .int a5, .int a6]) (.int i) = some (.int ([a0, a1, a2, a3, a4, a5, a6].getD i.toNat 0)) := iy_pick [a0, a1, a2, a3, a4, a5, a6] h h2
/-! ### the same, again -/
theorem whole_int (i : Int) : F__law_whole [.int i] = .ok (.bool true) false .none := rfl
theorem whole_bool (i : Bool) : F__law_whole [.bool i] = .ok (.bool false) false .none := rfl
theorem zip_self (ds : List D) : zipD ds ds = ds.map fun d => .tuple [d, d] := by
  unfold zipD
  induction ds with
  | nil => rfl
  | cons d ds ih => rw [List.zip_cons_cons, List.map_cons, ih, List.map_cons]
theorem same_loop {F : List D → R} {x y : D} : ∀ (ds : List D), (∀ d ∈ ds, F [d, d] = .ok (.bool true) false .none) → 
    compLoop (.tp [.nm 2, .nm 3]) [2, 3] yes (callF [.p, .p] F [] (consF (vr 2) (consF (vr 3) nilF))) (ds.map fun d => .tuple [d, d]) [.val x, .val y, .un, .un] = .ok ((ds.map fun _ => true).map PyData.bool) [.val x, .val y, .un, .un]
  | [], _ => rfl
  | d :: ds, h => by
    have ih := same_loop (x := x) (y := y) ds fun d m => h d (List.mem_cons_of_mem _ m)
    rw [List.map_cons]
    unfold compLoop
    have e : Tg.put (.tp [.nm 2, .nm 3]) (.tuple [d, d]) [.val x, .val y, .un, .un] = some [.val x, .val y, .val d, .val d] := rfl
    rw [e]
    simp only [runD, runO, out0, slots0, List.replicate, List.append_nil, List.cons_append, List.nil_append, List.length_cons, List.length_nil, retS, retC, retO, retN, seqS, ifS, asg, asgO, exprS, appS, setS, augS, asgT, raiseS, nxS, op1, op2, op2C, tst, andF, orF, ifF, andB, orB, notB, chF, cst, vr, frz, frC, lstC, tupF, consF, nilF, bltF, bltC, one_d, bind_ok, bind_er, bind_bad, then_ok, then_er, then_bad, opt_some, opt_none, Vl.get, Slot.get, Slot.put, Slot.cont, Slot.lst, Slot.mut, Slot.shal, stables, sh, gets, argD, argB, callF, callO, callC, callB, callW, pick, Pk.of, and_self, boxC, partF, slF, srcF, srcR1, srcR2, srcZ, forS, popF, noEr_ok, noEr_er, yes, List.getElem?_cons_zero, List.getElem?_cons_succ, List.set_cons_zero, List.set_cons_succ, Option.bind_some, Option.bind_none, Option.map_some, Option.map_none, if_true, if_false, Bool.false_eq_true, if_pos, List.map_cons, List.map_nil, add_int, sub_int, negD, notD, boolOf, isD, isntD, isNone, Tg.put, Tg.puts, sh0, sh1, sh2, sh3, sh4, sh5, sh6, sh7, sh8, sh9, sh10, sh11, sh12, sh13, sh14, sh15, sh16, step_nx, step_ct, Nat.add_one_sub_one, Nat.sub_self, Nat.zero_add, Nat.reduceAdd, Nat.reduceSub, h d (List.mem_cons_self ..), wipeE, ih]
theorem all_true (ds : List D) : (ds.map fun _ => true).all id = true := by
  rw [List.all_map]
  exact List.all_eq_true.mpr fun _ _ => rfl
theorem same_self : ∀ (n : Nat) (d : D), smOk n d = true → F__law_same n [d, d] = .ok (.bool true) false .none
  | 0, _, h => by cases h
  | n + 1, d, h => by
    cases d with
    | none => rfl
    | bool b => cases b <;> rfl
    | int i =>
      simp only [F__law_same, f__law_same, runD, runO, out0, slots0, List.replicate, List.append_nil, List.cons_append, List.nil_append, List.length_cons, List.length_nil, retS, retC, retO, retN, seqS, ifS, asg, asgO, exprS, appS, setS, augS, asgT, raiseS, nxS, op1, op2, op2C, tst, andF, orF, ifF, andB, orB, notB, chF, cst, vr, frz, frC, lstC, tupF, consF, nilF, bltF, bltC, one_d, bind_ok, bind_er, bind_bad, then_ok, then_er, then_bad, opt_some, opt_none, Vl.get, Slot.get, Slot.put, Slot.cont, Slot.lst, Slot.mut, Slot.shal, stables, sh, gets, argD, argB, callF, callO, callC, callB, callW, pick, Pk.of, and_self, boxC, partF, slF, srcF, srcR1, srcR2, srcZ, forS, popF, noEr_ok, noEr_er, yes, List.getElem?_cons_zero, List.getElem?_cons_succ, List.set_cons_zero, List.set_cons_succ, Option.bind_some, Option.bind_none, Option.map_some, Option.map_none, if_true, if_false, Bool.false_eq_true, if_pos, List.map_cons, List.map_nil, add_int, sub_int, negD, notD, boolOf, isD, isntD, isNone, Tg.put, Tg.puts, sh0, sh1, sh2, sh3, sh4, sh5, sh6, sh7, sh8, sh9, sh10, sh11, sh12, sh13, sh14, sh15, sh16, step_nx, step_ct, Nat.add_one_sub_one, Nat.sub_self, Nat.zero_add, Nat.reduceAdd, Nat.reduceSub, isiD, isi, eq_int, whole_int, beq_self_eq_true]
    | str x =>
      simp only [F__law_same, f__law_same, runD, runO, out0, slots0, List.replicate, List.append_nil, List.cons_append, List.nil_append, List.length_cons, List.length_nil, retS, retC, retO, retN, seqS, ifS, asg, asgO, exprS, appS, setS, augS, asgT, raiseS, nxS, op1, op2, op2C, tst, andF, orF, ifF, andB, orB, notB, chF, cst, vr, frz, frC, lstC, tupF, consF, nilF, bltF, bltC, one_d, bind_ok, bind_er, bind_bad, then_ok, then_er, then_bad, opt_some, opt_none, Vl.get, Slot.get, Slot.put, Slot.cont, Slot.lst, Slot.mut, Slot.shal, stables, sh, gets, argD, argB, callF, callO, callC, callB, callW, pick, Pk.of, and_self, boxC, partF, slF, srcF, srcR1, srcR2, srcZ, forS, popF, noEr_ok, noEr_er, yes, List.getElem?_cons_zero, List.getElem?_cons_succ, List.set_cons_zero, List.set_cons_succ, Option.bind_some, Option.bind_none, Option.map_some, Option.map_none, if_true, if_false, Bool.false_eq_true, if_pos, List.map_cons, List.map_nil, add_int, sub_int, negD, notD, boolOf, isD, isntD, isNone, Tg.put, Tg.puts, sh0, sh1, sh2, sh3, sh4, sh5, sh6, sh7, sh8, sh9, sh10, sh11, sh12, sh13, sh14, sh15, sh16, step_nx, step_ct, Nat.add_one_sub_one, Nat.sub_self, Nat.zero_add, Nat.reduceAdd, Nat.reduceSub, isiD, isi, eq_str h h, beq_self_eq_true]
    | list ds =>
      obtain ⟨h1, h2⟩ := Bool.and_eq_true_iff.mp h
      have ih := fun d m => same_self n d (List.all_eq_true.mp h2 d m)
      have hs : short ((ds.map fun _ => true).map PyData.bool) = true := decide_eq_true (by rw [List.length_map, List.length_map]; exact of_decide_eq_true h1)
      simp only [F__law_same, f__law_same, runD, runO, out0, slots0, List.replicate, List.append_nil, List.cons_append, List.nil_append, List.length_cons, List.length_nil, retS, retC, retO, retN, seqS, ifS, asg, asgO, exprS, appS, setS, augS, asgT, raiseS, nxS, op1, op2, op2C, tst, andF, orF, ifF, andB, orB, notB, chF, cst, vr, frz, frC, lstC, tupF, consF, nilF, bltF, bltC, one_d, bind_ok, bind_er, bind_bad, then_ok, then_er, then_bad, opt_some, opt_none, Vl.get, Slot.get, Slot.put, Slot.cont, Slot.lst, Slot.mut, Slot.shal, stables, sh, gets, argD, argB, callF, callO, callC, callB, callW, pick, Pk.of, and_self, boxC, partF, slF, srcF, srcR1, srcR2, srcZ, forS, popF, noEr_ok, noEr_er, yes, List.getElem?_cons_zero, List.getElem?_cons_succ, List.set_cons_zero, List.set_cons_succ, Option.bind_some, Option.bind_none, Option.map_some, Option.map_none, if_true, if_false, Bool.false_eq_true, if_pos, List.map_cons, List.map_nil, add_int, sub_int, negD, notD, boolOf, isD, isntD, isNone, Tg.put, Tg.puts, sh0, sh1, sh2, sh3, sh4, sh5, sh6, sh7, sh8, sh9, sh10, sh11, sh12, sh13, sh14, sh15, sh16, step_nx, step_ct, Nat.add_one_sub_one, Nat.sub_self, Nat.zero_add, Nat.reduceAdd, Nat.reduceSub, isiD, isiAnyD, isi, isiAny, lenL, ne_int, ne_bool, beq_self_eq_true, Bool.not_true, Bool.not_false, compC, zip_self, wipeE, same_loop ds ih, hs, allD, bools_of, all_true]
    | tuple ds => 
      obtain ⟨h1, h2⟩ := Bool.and_eq_true_iff.mp h
      have ih := fun d m => same_self n d (List.all_eq_true.mp h2 d m)
      have hs : short ((ds.map fun _ => true).map PyData.bool) = true := decide_eq_true (by rw [List.length_map, List.length_map]; exact of_decide_eq_true h1)
      simp only [F__law_same, f__law_same, runD, runO, out0, slots0, List.replicate, List.append_nil, List.cons_append, List.nil_append, List.length_cons, List.length_nil, retS, retC, retO, retN, seqS, ifS, asg, asgO, exprS, appS, setS, augS, asgT, raiseS, nxS, op1, op2, op2C, tst, andF, orF, ifF, andB, orB, notB, chF, cst, vr, frz, frC, lstC, tupF, consF, nilF, bltF, bltC, one_d, bind_ok, bind_er, bind_bad, then_ok, then_er, then_bad, opt_some, opt_none, Vl.get, Slot.get, Slot.put, Slot.cont, Slot.lst, Slot.mut, Slot.shal, stables, sh, gets, argD, argB, callF, callO, callC, callB, callW, pick, Pk.of, and_self, boxC, partF, slF, srcF, srcR1, srcR2, srcZ, forS, popF, noEr_ok, noEr_er, yes, List.getElem?_cons_zero, List.getElem?_cons_succ, List.set_cons_zero, List.set_cons_succ, Option.bind_some, Option.bind_none, Option.map_some, Option.map_none, if_true, if_false, Bool.false_eq_true, if_pos, List.map_cons, List.map_nil, add_int, sub_int, negD, notD, boolOf, isD, isntD, isNone, Tg.put, Tg.puts, sh0, sh1, sh2, sh3, sh4, sh5, sh6, sh7, sh8, sh9, sh10, sh11, sh12, sh13, sh14, sh15, sh16, step_nx, step_ct, Nat.add_one_sub_one, Nat.sub_self, Nat.zero_add, Nat.reduceAdd, Nat.reduceSub, isiD, isiAnyD, isi, isiAny, lenT, ne_int, ne_bool, beq_self_eq_true, Bool.not_true, Bool.not_false, compC, zip_self, wipeE, same_loop ds ih, hs, allD, bools_of, all_true]
    | dict => cases h
theorem same_int (n : Nat) (i : Int) : F__law_same (n + 1) [.int i, .int i] = .ok (.bool true) false .none := same_self (n + 1) (.int i) rfl
theorem same_bool (n : Nat) (i : Bool) : F__law_same (n + 1) [.bool i, .bool i] = .ok (.bool true) false .none := same_self (n + 1) (.bool i) rfl
/-! ### shapes, slices, comprehensions -/
mutual
theorem eqv_self : ∀ d : D, DL.plain d = true → PyData.eqv d d = true
  | .none, _ => rfl
  | .bool b, _ => by cases b <;> rfl
  | .int i, _ => beq_self_eq_true i
  | .str x, _ => beq_self_eq_true x
  | .list ds, h => eqvAll_self ds h
  | .tuple ds, h => eqvAll_self ds h
  | .dict _, h => by cases h
theorem eqvAll_self : ∀ ds : List D, DL.plainA ds = true → PyData.eqvAll ds ds = true
  | [], _ => rfl
  | d :: ds, h => by
    obtain ⟨a, b⟩ := Bool.and_eq_true_iff.mp h
    show (PyData.eqv d d && PyData.eqvAll ds ds) = true
    rw [eqv_self d a, eqvAll_self ds b]
    rfl
end
theorem eq_self {d : D} (h : eqOk d d = true) : eqD d d = some (.bool true) := by
  unfold eqD
  rw [if_pos h, eqv_self d (eq_ok h).1]
theorem ne_self {d : D} (h : eqOk d d = true) : neD d d = some (.bool false) := by
  unfold neD
  rw [if_pos h, eqv_self d (eq_ok h).1]
  rfl
/-- data of depth at most n that may be compared -/
def okN : Nat → D → Bool
  | _, .none => true
  | _, .bool _ => true
  | _, .int _ => true
  | _, .str x => PyData.strOk x
  | n + 1, .list ds => ds.all (okN n)
  | n + 1, .tuple ds => ds.all (okN n)
  | _, _ => false
theorem plainA_of : ∀ {ds : List D}, (∀ d ∈ ds, DL.plain d = true) → DL.plainA ds = true
  | [], _ => rfl
  | d :: ds, h => by
    show (DL.plain d && DL.plainA ds) = true
    rw [h d (List.mem_cons_self ..), plainA_of fun e m => h e (List.mem_cons_of_mem _ m)]
    rfl
theorem layA_of : ∀ {ds : List D}, (∀ d ∈ ds, PyData.canLay0 d = true) → PyData.canLayAll0 ds = true
  | [], _ => by simp only [PyData.canLayAll0]
  | d :: ds, h => by
    simp only [PyData.canLayAll0, h d (List.mem_cons_self ..), layA_of fun e m => h e (List.mem_cons_of_mem _ m), Bool.and_self]
theorem depthA_of {n : Nat} : ∀ {ds : List D}, (∀ d ∈ ds, PyData.depth d ≤ n) → PyData.depthAll ds ≤ n
  | [], _ => by simp only [PyData.depthAll]; omega
  | d :: ds, h => by
    have a := h d (List.mem_cons_self ..)
    have b := depthA_of fun e m => h e (List.mem_cons_of_mem _ m)
    simp only [PyData.depthAll]
    omega
theorem okN_all : ∀ (n : Nat) (d : D), okN n d = true → DL.plain d = true ∧ PyData.canLay0 d = true ∧ PyData.depth d ≤ n
  | _, .none, _ => ⟨rfl, by simp only [PyData.canLay0], by simp only [PyData.depth]; omega⟩
  | _, .bool _, _ => ⟨rfl, by simp only [PyData.canLay0], by simp only [PyData.depth]; omega⟩
  | _, .int _, _ => ⟨rfl, by simp only [PyData.canLay0], by simp only [PyData.depth]; omega⟩
  | n, .str x, h => ⟨rfl, by simp only [PyData.canLay0]; cases n <;> exact h, by simp only [PyData.depth]; omega⟩
  | n + 1, .list ds, h => by
    have q := fun d m => okN_all n d (List.all_eq_true.mp h d m)
    refine ⟨plainA_of fun d m => (q d m).1, ?_, ?_⟩
    · simp only [PyData.canLay0]; exact layA_of fun d m => (q d m).2.1
    · have := depthA_of fun d m => (q d m).2.2
      simp only [PyData.depth]; omega
  | n + 1, .tuple ds, h => by
    have q := fun d m => okN_all n d (List.all_eq_true.mp h d m)
    refine ⟨plainA_of fun d m => (q d m).1, ?_, ?_⟩
    · simp only [PyData.canLay0]; exact layA_of fun d m => (q d m).2.1
    · have := depthA_of fun d m => (q d m).2.2
      simp only [PyData.depth]; omega
  | 0, .list _, h => by cases h
  | 0, .tuple _, h => by cases h
  | 0, .dict _, h => by cases h
  | _ + 1, .dict _, h => by cases h
theorem okN_shaped {n : Nat} {d : D} (hn : n ≤ 64) (h : okN n d = true) : SeqAt.shaped d = true := by
  obtain ⟨_, a, b⟩ := okN_all n d h
  unfold SeqAt.shaped
  rw [a, decide_eq_true (show d.depth ≤ 64 by omega)]
  rfl
theorem okN_eq {n m : Nat} {d e : D} (hn : n ≤ 64) (hm : m ≤ 64) (h : okN n d = true) (g : okN m e = true) : eqOk d e = true := by
  unfold eqOk
  rw [(okN_all n d h).1, (okN_all m e g).1, okN_shaped hn h, okN_shaped hm g]
  rfl
theorem okN_ints (ns : List Int) : okN 1 (.list (ns.map PyData.int)) = true := List.all_eq_true.mpr fun d m => by
  obtain ⟨j, _, e⟩ := List.mem_map.mp m
  subst e
  rfl
theorem okN_tints (ns : List Int) : okN 1 (.tuple (ns.map PyData.int)) = true := okN_ints ns
theorem okN_strA (n : Nat) (x : Str) (h : okN n (.str x) = true) : PyData.strOk x = true := by
  cases n <;> exact h
theorem ne_ints_nil (ns : List Int) : neD (.list (ns.map PyData.int)) (.list []) = some (.bool (!ns.isEmpty)) := by
  unfold neD
  rw [if_pos (okN_eq (n := 1) (m := 1) (by decide) (by decide) (okN_ints ns) rfl)]
  cases ns <;> rfl
theorem ne_ints_self (ns : List Int) : neD (.list (ns.map PyData.int)) (.list (ns.map PyData.int)) = some (.bool false) := ne_self (okN_eq (n := 1) (m := 1) (by decide) (by decide) (okN_ints ns) (okN_ints ns))
theorem cut_from (xs : List D) (n : Nat) : DL.cutD xs (some (n : Int)) none = xs.drop n := by
  unfold DL.cutD
  rw [HT.sIx_nat, HT.sIx_none]
  by_cases h : n ≤ xs.length
  · rw [Nat.min_eq_left h, List.take_of_length_le (by rw [List.length_drop]; exact Nat.le_refl _)]
  · rw [Nat.min_eq_right (by omega), Nat.sub_self, List.take_zero, List.drop_eq_nil_of_le (by omega)]
theorem cut_to (xs : List D) (n : Nat) : DL.cutD xs none (some (n : Int)) = xs.take n := by
  unfold DL.cutD
  rw [HT.sIx_nat, HT.sIx_none, List.drop_zero, Nat.sub_zero]
  by_cases h : n ≤ xs.length
  · rw [Nat.min_eq_left h]
  · rw [Nat.min_eq_right (by omega), List.take_of_length_le (Nat.le_refl _), List.take_of_length_le (by omega)]
theorem cutL_from (ns : List Int) (n : Nat) : cutA (.list (ns.map PyData.int)) (some (n : Int)) none = some (.list ((ns.drop n).map PyData.int)) := by
  show some (PyData.list (DL.cutD (ns.map PyData.int) (some (n : Int)) none)) = _
  rw [cut_from, List.map_drop]
theorem cutL_to (ns : List Int) (n : Nat) : cutA (.list (ns.map PyData.int)) none (some (n : Int)) = some (.list ((ns.take n).map PyData.int)) := by
  show some (PyData.list (DL.cutD (ns.map PyData.int) none (some (n : Int)))) = _
  rw [cut_to, List.map_take]
theorem add_ints {xs ys : List Int} (h : xs.length + ys.length ≤ 100000) : addD (.list (xs.map PyData.int)) (.list (ys.map PyData.int)) = some (.list ((xs ++ ys).map PyData.int)) := by
  show (if (xs.map PyData.int).length + (ys.map PyData.int).length ≤ 100000 then some (PyData.list (xs.map PyData.int ++ ys.map PyData.int)) else none) = _
  rw [if_pos (by rw [List.length_map, List.length_map]; exact h), List.map_append]
theorem rev_ints (ns : List Int) : (ns.map PyData.int).reverse = ns.reverse.map PyData.int := List.map_reverse.symm
/-- a comprehension whose passes leave the slots as they were -/
theorem comp_run {t : Tg} {vs : List Nat} {te : EF} {ρ : En} (g : D → D) : ∀ ds : List D, (∀ d ∈ ds, ∃ ρ1, t.put d ρ = some ρ1 ∧ ∃ ρ3, te ρ1 = .ok (.st (g d)) ρ3 ∧ wipeE ρ3 vs = ρ) → compLoop t vs yes te ds ρ = .ok (ds.map g) ρ
  | [], _ => rfl
  | d :: ds, h => by
    obtain ⟨ρ1, e1, ρ3, e3, e4⟩ := h d (List.mem_cons_self ..)
    have ih := comp_run (t := t) (vs := vs) (te := te) (ρ := ρ) g ds fun e m => h e (List.mem_cons_of_mem _ m)
    unfold compLoop
    simp only [e1, yes, noEr_ok, bind_ok, if_true, e3, e4, ih, List.map_cons]
theorem comp_ints {t : Tg} {vs : List Nat} {te : EF} {ρ : En} {α : Type} (f : α → D) (g : α → Int) (xs : List α) (h : ∀ x ∈ xs, ∃ ρ1, t.put (f x) ρ = some ρ1 ∧ ∃ ρ3, te ρ1 = .ok (.st (.int (g x))) ρ3 ∧ wipeE ρ3 vs = ρ) :
    compLoop t vs yes te (xs.map f) ρ = .ok ((xs.map g).map PyData.int) ρ := by
  induction xs with
  | nil => rfl
  | cons x xs ih =>
    obtain ⟨ρ1, e1, ρ3, e3, e4⟩ := h x (List.mem_cons_self ..)
    have ih := ih fun e m => h e (List.mem_cons_of_mem _ m)
    rw [List.map_cons]
    unfold compLoop
    simp only [e1, yes, noEr_ok, bind_ok, if_true, e3, e4, ih, List.map_cons]
theorem short_map {α : Type} {f : α → D} {xs : List α} (h : xs.length ≤ 100000) : short (xs.map f) = true := decide_eq_true (by rw [List.length_map]; exact h)
theorem sum_ints (ns : List Int) : sumD (.list (ns.map PyData.int)) = some (.int ns.sum) := by
  show (intsOf (ns.map PyData.int)).map _ = _
  rw [ints_of]
  rfl
theorem zip_ints (xs ys : List Int) : zipD (xs.map PyData.int) (ys.map PyData.int) = (xs.zip ys).map fun p => .tuple [.int p.1, .int p.2] := by
  unfold zipD
  rw [List.zip_map, List.map_map]
  rfl
theorem comp_bools {t : Tg} {vs : List Nat} {te : EF} {ρ : En} {α : Type} (f : α → D) (g : α → Bool) (xs : List α) (h : ∀ x ∈ xs, ∃ ρ1, t.put (f x) ρ = some ρ1 ∧ ∃ ρ3, te ρ1 = .ok (.st (.bool (g x))) ρ3 ∧ wipeE ρ3 vs = ρ) :
    compLoop t vs yes te (xs.map f) ρ = .ok ((xs.map g).map PyData.bool) ρ := by
  induction xs with
  | nil => rfl
  | cons x xs ih =>
    obtain ⟨ρ1, e1, ρ3, e3, e4⟩ := h x (List.mem_cons_self ..)
    have ih := ih fun e m => h e (List.mem_cons_of_mem _ m)
    rw [List.map_cons]
    unfold compLoop
    simp only [e1, yes, noEr_ok, bind_ok, if_true, e3, e4, ih, List.map_cons]
theorem all_bools {α : Type} (g : α → Bool) (xs : List α) : allD (.list ((xs.map g).map PyData.bool)) = some (.bool (xs.all g)) := by
  show (boolsOf ((xs.map g).map PyData.bool)).map _ = _
  rw [bools_of, Option.map_some, List.all_map]
  rfl
theorem ch_le_lt {a b c : Int} {ρ : En} {fa fb fc : EF} (e1 : fa ρ = .ok (.st (.int a)) ρ) (e2 : fb ρ = .ok (.st (.int b)) ρ) (e3 : fc ρ = .ok (.st (.int c)) ρ) : chF leD ltD fa fb fc ρ = .ok (.st (.bool (decide (a ≤ b) && decide (b < c)))) ρ := by
  by_cases h : a ≤ b
  · simp only [runD, runO, out0, slots0, List.replicate, List.append_nil, List.cons_append, List.nil_append, List.length_cons, List.length_nil, retS, retC, retO, retN, seqS, ifS, asg, asgO, exprS, appS, setS, augS, asgT, raiseS, nxS, op1, op2, op2C, tst, andF, orF, ifF, andB, orB, notB, chF, cst, vr, frz, frC, lstC, tupF, consF, nilF, bltF, bltC, one_d, bind_ok, bind_er, bind_bad, then_ok, then_er, then_bad, opt_some, opt_none, Vl.get, Slot.get, Slot.put, Slot.cont, Slot.lst, Slot.mut, Slot.shal, stables, sh, gets, argD, argB, callF, callO, callC, callB, callW, pick, Pk.of, and_self, boxC, partF, slF, srcF, srcR1, srcR2, srcZ, forS, popF, noEr_ok, noEr_er, yes, List.getElem?_cons_zero, List.getElem?_cons_succ, List.set_cons_zero, List.set_cons_succ, Option.bind_some, Option.bind_none, Option.map_some, Option.map_none, if_true, if_false, Bool.false_eq_true, if_pos, List.map_cons, List.map_nil, add_int, sub_int, negD, notD, boolOf, isD, isntD, isNone, Tg.put, Tg.puts, sh0, sh1, sh2, sh3, sh4, sh5, sh6, sh7, sh8, sh9, sh10, sh11, sh12, sh13, sh14, sh15, sh16, step_nx, step_ct, Nat.add_one_sub_one, Nat.sub_self, Nat.zero_add, Nat.reduceAdd, Nat.reduceSub, e1, e2, e3, leI, ltI, decide_eq_true h, Bool.true_and]
  · simp only [runD, runO, out0, slots0, List.replicate, List.append_nil, List.cons_append, List.nil_append, List.length_cons, List.length_nil, retS, retC, retO, retN, seqS, ifS, asg, asgO, exprS, appS, setS, augS, asgT, raiseS, nxS, op1, op2, op2C, tst, andF, orF, ifF, andB, orB, notB, chF, cst, vr, frz, frC, lstC, tupF, consF, nilF, bltF, bltC, one_d, bind_ok, bind_er, bind_bad, then_ok, then_er, then_bad, opt_some, opt_none, Vl.get, Slot.get, Slot.put, Slot.cont, Slot.lst, Slot.mut, Slot.shal, stables, sh, gets, argD, argB, callF, callO, callC, callB, callW, pick, Pk.of, and_self, boxC, partF, slF, srcF, srcR1, srcR2, srcZ, forS, popF, noEr_ok, noEr_er, yes, List.getElem?_cons_zero, List.getElem?_cons_succ, List.set_cons_zero, List.set_cons_succ, Option.bind_some, Option.bind_none, Option.map_some, Option.map_none, if_true, if_false, Bool.false_eq_true, if_pos, List.map_cons, List.map_nil, add_int, sub_int, negD, notD, boolOf, isD, isntD, isNone, Tg.put, Tg.puts, sh0, sh1, sh2, sh3, sh4, sh5, sh6, sh7, sh8, sh9, sh10, sh11, sh12, sh13, sh14, sh15, sh16, step_nx, step_ct, Nat.add_one_sub_one, Nat.sub_self, Nat.zero_add, Nat.reduceAdd, Nat.reduceSub, e1, e2, e3, leI, ltI, decide_eq_false h, Bool.false_and]
theorem ch_le_le {a b c : Int} {ρ : En} {fa fb fc : EF} (e1 : fa ρ = .ok (.st (.int a)) ρ) (e2 : fb ρ = .ok (.st (.int b)) ρ) (e3 : fc ρ = .ok (.st (.int c)) ρ) : chF leD leD fa fb fc ρ = .ok (.st (.bool (decide (a ≤ b) && decide (b ≤ c)))) ρ := by
  by_cases h : a ≤ b
  · simp only [runD, runO, out0, slots0, List.replicate, List.append_nil, List.cons_append, List.nil_append, List.length_cons, List.length_nil, retS, retC, retO, retN, seqS, ifS, asg, asgO, exprS, appS, setS, augS, asgT, raiseS, nxS, op1, op2, op2C, tst, andF, orF, ifF, andB, orB, notB, chF, cst, vr, frz, frC, lstC, tupF, consF, nilF, bltF, bltC, one_d, bind_ok, bind_er, bind_bad, then_ok, then_er, then_bad, opt_some, opt_none, Vl.get, Slot.get, Slot.put, Slot.cont, Slot.lst, Slot.mut, Slot.shal, stables, sh, gets, argD, argB, callF, callO, callC, callB, callW, pick, Pk.of, and_self, boxC, partF, slF, srcF, srcR1, srcR2, srcZ, forS, popF, noEr_ok, noEr_er, yes, List.getElem?_cons_zero, List.getElem?_cons_succ, List.set_cons_zero, List.set_cons_succ, Option.bind_some, Option.bind_none, Option.map_some, Option.map_none, if_true, if_false, Bool.false_eq_true, if_pos, List.map_cons, List.map_nil, add_int, sub_int, negD, notD, boolOf, isD, isntD, isNone, Tg.put, Tg.puts, sh0, sh1, sh2, sh3, sh4, sh5, sh6, sh7, sh8, sh9, sh10, sh11, sh12, sh13, sh14, sh15, sh16, step_nx, step_ct, Nat.add_one_sub_one, Nat.sub_self, Nat.zero_add, Nat.reduceAdd, Nat.reduceSub, e1, e2, e3, leI, ltI, decide_eq_true h, Bool.true_and]
  · simp only [runD, runO, out0, slots0, List.replicate, List.append_nil, List.cons_append, List.nil_append, List.length_cons, List.length_nil, retS, retC, retO, retN, seqS, ifS, asg, asgO, exprS, appS, setS, augS, asgT, raiseS, nxS, op1, op2, op2C, tst, andF, orF, ifF, andB, orB, notB, chF, cst, vr, frz, frC, lstC, tupF, consF, nilF, bltF, bltC, one_d, bind_ok, bind_er, bind_bad, then_ok, then_er, then_bad, opt_some, opt_none, Vl.get, Slot.get, Slot.put, Slot.cont, Slot.lst, Slot.mut, Slot.shal, stables, sh, gets, argD, argB, callF, callO, callC, callB, callW, pick, Pk.of, and_self, boxC, partF, slF, srcF, srcR1, srcR2, srcZ, forS, popF, noEr_ok, noEr_er, yes, List.getElem?_cons_zero, List.getElem?_cons_succ, List.set_cons_zero, List.set_cons_succ, Option.bind_some, Option.bind_none, Option.map_some, Option.map_none, if_true, if_false, Bool.false_eq_true, if_pos, List.map_cons, List.map_nil, add_int, sub_int, negD, notD, boolOf, isD, isntD, isNone, Tg.put, Tg.puts, sh0, sh1, sh2, sh3, sh4, sh5, sh6, sh7, sh8, sh9, sh10, sh11, sh12, sh13, sh14, sh15, sh16, step_nx, step_ct, Nat.add_one_sub_one, Nat.sub_self, Nat.zero_add, Nat.reduceAdd, Nat.reduceSub, e1, e2, e3, leI, ltI, decide_eq_false h, Bool.false_and]
/-! ### clocks -/
structure Clk (c : Int) : Prop where
  lo : 3 ≤ c
  hi : c ≤ 15
  odd : c % 2 = 1
/-! ### is it a clock -/
def isClk (c : Int) : Bool := decide (3 ≤ c) && decide (c ≤ 15) && (c % 2 == 1)
theorem is_clock_eq (c : Int) : F_is_clock [.int c] = .ok (.bool (isClk c)) false .none := by
  unfold isClk
  by_cases h1 : 3 ≤ c
  · by_cases h2 : c ≤ 15
    · simp only [F_is_clock, f_is_clock, runD, runO, out0, slots0, List.replicate, List.append_nil, List.cons_append, List.nil_append, List.length_cons, List.length_nil, retS, retC, retO, retN, seqS, ifS, asg, asgO, exprS, appS, setS, augS, asgT, raiseS, nxS, op1, op2, op2C, tst, andF, orF, ifF, andB, orB, notB, chF, cst, vr, frz, frC, lstC, tupF, consF, nilF, bltF, bltC, one_d, bind_ok, bind_er, bind_bad, then_ok, then_er, then_bad, opt_some, opt_none, Vl.get, Slot.get, Slot.put, Slot.cont, Slot.lst, Slot.mut, Slot.shal, stables, sh, gets, argD, argB, callF, callO, callC, callB, callW, pick, Pk.of, and_self, boxC, partF, slF, srcF, srcR1, srcR2, srcZ, forS, popF, noEr_ok, noEr_er, yes, List.getElem?_cons_zero, List.getElem?_cons_succ, List.set_cons_zero, List.set_cons_succ, Option.bind_some, Option.bind_none, Option.map_some, Option.map_none, if_true, if_false, Bool.false_eq_true, if_pos, List.map_cons, List.map_nil, add_int, sub_int, negD, notD, boolOf, isD, isntD, isNone, Tg.put, Tg.puts, sh0, sh1, sh2, sh3, sh4, sh5, sh6, sh7, sh8, sh9, sh10, sh11, sh12, sh13, sh14, sh15, sh16, step_nx, step_ct, Nat.add_one_sub_one, Nat.sub_self, Nat.zero_add, Nat.reduceAdd, Nat.reduceSub, leI, eq_int, mod_p (show (0 : Int) < 2 by decide), decide_eq_true h1, decide_eq_true h2, Bool.true_and]
    · simp only [F_is_clock, f_is_clock, runD, runO, out0, slots0, List.replicate, List.append_nil, List.cons_append, List.nil_append, List.length_cons, List.length_nil, retS, retC, retO, retN, seqS, ifS, asg, asgO, exprS, appS, setS, augS, asgT, raiseS, nxS, op1, op2, op2C, tst, andF, orF, ifF, andB, orB, notB, chF, cst, vr, frz, frC, lstC, tupF, consF, nilF, bltF, bltC, one_d, bind_ok, bind_er, bind_bad, then_ok, then_er, then_bad, opt_some, opt_none, Vl.get, Slot.get, Slot.put, Slot.cont, Slot.lst, Slot.mut, Slot.shal, stables, sh, gets, argD, argB, callF, callO, callC, callB, callW, pick, Pk.of, and_self, boxC, partF, slF, srcF, srcR1, srcR2, srcZ, forS, popF, noEr_ok, noEr_er, yes, List.getElem?_cons_zero, List.getElem?_cons_succ, List.set_cons_zero, List.set_cons_succ, Option.bind_some, Option.bind_none, Option.map_some, Option.map_none, if_true, if_false, Bool.false_eq_true, if_pos, List.map_cons, List.map_nil, add_int, sub_int, negD, notD, boolOf, isD, isntD, isNone, Tg.put, Tg.puts, sh0, sh1, sh2, sh3, sh4, sh5, sh6, sh7, sh8, sh9, sh10, sh11, sh12, sh13, sh14, sh15, sh16, step_nx, step_ct, Nat.add_one_sub_one, Nat.sub_self, Nat.zero_add, Nat.reduceAdd, Nat.reduceSub, leI, eq_int, mod_p (show (0 : Int) < 2 by decide), decide_eq_true h1, decide_eq_false h2, Bool.true_and, Bool.false_and]
  · simp only [F_is_clock, f_is_clock, runD, runO, out0, slots0, List.replicate, List.append_nil, List.cons_append, List.nil_append, List.length_cons, List.length_nil, retS, retC, retO, retN, seqS, ifS, asg, asgO, exprS, appS, setS, augS, asgT, raiseS, nxS, op1, op2, op2C, tst, andF, orF, ifF, andB, orB, notB, chF, cst, vr, frz, frC, lstC, tupF, consF, nilF, bltF, bltC, one_d, bind_ok, bind_er, bind_bad, then_ok, then_er, then_bad, opt_some, opt_none, Vl.get, Slot.get, Slot.put, Slot.cont, Slot.lst, Slot.mut, Slot.shal, stables, sh, gets, argD, argB, callF, callO, callC, callB, callW, pick, Pk.of, and_self, boxC, partF, slF, srcF, srcR1, srcR2, srcZ, forS, popF, noEr_ok, noEr_er, yes, List.getElem?_cons_zero, List.getElem?_cons_succ, List.set_cons_zero, List.set_cons_succ, Option.bind_some, Option.bind_none, Option.map_some, Option.map_none, if_true, if_false, Bool.false_eq_true, if_pos, List.map_cons, List.map_nil, add_int, sub_int, negD, notD, boolOf, isD, isntD, isNone, Tg.put, Tg.puts, sh0, sh1, sh2, sh3, sh4, sh5, sh6, sh7, sh8, sh9, sh10, sh11, sh12, sh13, sh14, sh15, sh16, step_nx, step_ct, Nat.add_one_sub_one, Nat.sub_self, Nat.zero_add, Nat.reduceAdd, Nat.reduceSub, leI, eq_int, mod_p (show (0 : Int) < 2 by decide), decide_eq_false h1, Bool.false_and]
theorem Clk.is {c : Int} (h : Clk c) : isClk c = true := by
  unfold isClk
  rw [decide_eq_true h.lo, decide_eq_true h.hi, h.odd]
  rfl
def clkOf (b : Box) : Int := 3 + 2 * (take b 7).1
theorem clkOf_clk (b : Box) : Clk (clkOf b) := by
  have h1 := take_nn b (show (0 : Int) < 7 by decide)
  have h2 := take_lt b (show (0 : Int) < 7 by decide)
  unfold clkOf
  exact ⟨by omega, by omega, by omega⟩
theorem clock_eq (b : Box) : F__law_clock (bD b) [] = .ok (.int (clkOf b)) false (bD (take b 7).2) := by
  simp only [F__law_clock, f__law_clock, runD, runO, out0, slots0, List.replicate, List.append_nil, List.cons_append, List.nil_append, List.length_cons, List.length_nil, retS, retC, retO, retN, seqS, ifS, asg, asgO, exprS, appS, setS, augS, asgT, raiseS, nxS, op1, op2, op2C, tst, andF, orF, ifF, andB, orB, notB, chF, cst, vr, frz, frC, lstC, tupF, consF, nilF, bltF, bltC, one_d, bind_ok, bind_er, bind_bad, then_ok, then_er, then_bad, opt_some, opt_none, Vl.get, Slot.get, Slot.put, Slot.cont, Slot.lst, Slot.mut, Slot.shal, stables, sh, gets, argD, argB, callF, callO, callC, callB, callW, pick, Pk.of, and_self, boxC, partF, slF, srcF, srcR1, srcR2, srcZ, forS, popF, noEr_ok, noEr_er, yes, List.getElem?_cons_zero, List.getElem?_cons_succ, List.set_cons_zero, List.set_cons_succ, Option.bind_some, Option.bind_none, Option.map_some, Option.map_none, if_true, if_false, Bool.false_eq_true, if_pos, List.map_cons, List.map_nil, add_int, sub_int, negD, notD, boolOf, isD, isntD, isNone, Tg.put, Tg.puts, sh0, sh1, sh2, sh3, sh4, sh5, sh6, sh7, sh8, sh9, sh10, sh11, sh12, sh13, sh14, sh15, sh16, step_nx, step_ct, Nat.add_one_sub_one, Nat.sub_self, Nat.zero_add, Nat.reduceAdd, Nat.reduceSub, mul_l (show (2 : Int).natAbs < 18446744073709551616 by decide), take_eq b (show (0 : Int) < 7 by decide) (by decide)]
  try rfl
def numOf (b : Box) : Int := [-1000000000000000000000000000000, -1, 0, 1, 2, 9, 10, 15, 16, 200, 999, 1000, 1000000000000000000000000000000].getD (take b 13).1.toNat 0
theorem number_eq (b : Box) : F__law_number (bD b) [] = .ok (.int (numOf b)) false (bD (take b 13).2) := by
  simp only [F__law_number, f__law_number, runD, runO, out0, slots0, List.replicate, List.append_nil, List.cons_append, List.nil_append, List.length_cons, List.length_nil, retS, retC, retO, retN, seqS, ifS, asg, asgO, exprS, appS, setS, augS, asgT, raiseS, nxS, op1, op2, op2C, tst, andF, orF, ifF, andB, orB, notB, chF, cst, vr, frz, frC, lstC, tupF, consF, nilF, bltF, bltC, one_d, bind_ok, bind_er, bind_bad, then_ok, then_er, then_bad, opt_some, opt_none, Vl.get, Slot.get, Slot.put, Slot.cont, Slot.lst, Slot.mut, Slot.shal, stables, sh, gets, argD, argB, callF, callO, callC, callB, callW, pick, Pk.of, and_self, boxC, partF, slF, srcF, srcR1, srcR2, srcZ, forS, popF, noEr_ok, noEr_er, yes, List.getElem?_cons_zero, List.getElem?_cons_succ, List.set_cons_zero, List.set_cons_succ, Option.bind_some, Option.bind_none, Option.map_some, Option.map_none, if_true, if_false, Bool.false_eq_true, if_pos, List.map_cons, List.map_nil, add_int, sub_int, negD, notD, boolOf, isD, isntD, isNone, Tg.put, Tg.puts, sh0, sh1, sh2, sh3, sh4, sh5, sh6, sh7, sh8, sh9, sh10, sh11, sh12, sh13, sh14, sh15, sh16, step_nx, step_ct, Nat.add_one_sub_one, Nat.sub_self, Nat.zero_add, Nat.reduceAdd, Nat.reduceSub, pow30, negD, ixp13 (take_nn b (show (0 : Int) < 13 by decide)) (take_lt b (show (0 : Int) < 13 by decide)), take_eq b (show (0 : Int) < 13 by decide) (by decide)]
  rfl
/-! ### charts -/
/-- f ends with an answer -/
def RtV (f : SF) (ρ : En) (d : D) (fr : Bool) (Q : En → Prop) : Prop := ∃ ρ', f ρ = .rt d fr ρ' ∧ Q ρ'
theorem RtV.seq {f g : SF} {ρ : En} {d : D} {fr : Bool} {P Q : En → Prop} (h : Nx f ρ P) (k : ∀ ρ', P ρ' → RtV g ρ' d fr Q) : RtV (seqS f g) ρ d fr Q := by
  obtain ⟨ρ', e, p⟩ := h
  obtain ⟨ρ2, e2, q⟩ := k ρ' p
  exact ⟨ρ2, by simp only [seqS, e, e2], q⟩
theorem RtV.runO {f : SF} {c c' d : D} {ds : List D} {m : List Md} {n : Nat} {fr : Bool} (h : RtV f (.arg c :: slots0 m ds ++ List.replicate (n - (m.length + 1)) .un) d fr (fun ρ => ∃ l, ρ = .arg c' :: l)) : DL.runO m n f c ds = .ok d fr c' := by
  obtain ⟨ρ', e, l, rfl⟩ := h
  unfold DL.runO
  rw [e]
  rfl
theorem RtV.runD {f : SF} {d : D} {ds : List D} {m : List Md} {n : Nat} {fr : Bool} {Q : En → Prop} (h : RtV f (slots0 m ds ++ List.replicate (n - m.length) .un) d fr Q) : DL.runD m n f ds = .ok d fr .none := by
  obtain ⟨ρ', e, _⟩ := h
  unfold DL.runD
  rw [e]
def rowD (r : List Int) : D := .tuple (r.map PyData.int)
def rowsD (rs : List (List Int)) : D := .tuple (rs.map rowD)
def chD (c : Int) (rs : List (List Int)) : D := .tuple [.int c, rowsD rs]
theorem okN_row (r : List Int) : okN 1 (rowD r) = true := okN_tints r
theorem okN_rows (rs : List (List Int)) : okN 2 (.list (rs.map rowD)) = true := List.all_eq_true.mpr fun d m => by
  obtain ⟨j, _, e⟩ := List.mem_map.mp m
  subst e
  exact okN_row j
theorem okN_rowsD (rs : List (List Int)) : okN 2 (rowsD rs) = true := okN_rows rs
theorem okN_ch (c : Int) (rs : List (List Int)) : okN 3 (chD c rs) = true := by
  show ([PyData.int c, rowsD rs].all (okN 2)) = true
  rw [List.all_cons, List.all_cons, List.all_nil, okN_rowsD]
  rfl
theorem ne_rows_nil (rs : List (List Int)) : neD (.list (rs.map rowD)) (.list []) = some (.bool (!rs.isEmpty)) := by
  unfold neD
  rw [if_pos (okN_eq (n := 2) (m := 1) (by decide) (by decide) (okN_rows rs) rfl)]
  cases rs <;> rfl
theorem neg_atG {α : Type} (f : α → D) (z : α) {xs : List α} {i : Int} (h1 : -(xs.length : Int) ≤ i) (h2 : i < 0) : L2.atI (xs.map f) i = some (f (xs.getD (i + xs.length).toNat z)) := by
  unfold L2.atI L2.ixN
  rw [if_neg (by omega), List.length_map, if_pos h1, Option.bind_some, List.getElem?_map, List.getElem?_eq_getElem (by omega), List.getD_eq_getElem?_getD, List.getElem?_eq_getElem (by omega)]
  rfl
theorem pos_atG {α : Type} (f : α → D) (z : α) {xs : List α} {k : Nat} (h2 : k < xs.length) : L2.atI (xs.map f) (k : Int) = some (f (xs.getD k z)) := by
  refine atI_nat ?_
  rw [List.getElem?_map, List.getElem?_eq_getElem h2, List.getD_eq_getElem?_getD, List.getElem?_eq_getElem h2]
  rfl
theorem row_at {r : List Int} {k : Nat} (h : k < r.length) : ixD (rowD r) (.int (k : Int)) = some (.int (r.getD k 0)) := pos_atG PyData.int 0 h
theorem rows_at {rs : List (List Int)} {k : Nat} (h : k < rs.length) : ixD (rowsD rs) (.int (k : Int)) = some (rowD (rs.getD k [])) := pos_atG rowD [] h
theorem rowsL_neg {rs : List (List Int)} (h : rs ≠ []) : ixD (.list (rs.map rowD)) (.int (-1)) = some (rowD (rs.getD (rs.length - 1) [])) := by
  have lp := List.length_pos_iff.mpr h
  have := neg_atG rowD [] (xs := rs) (i := -1) (by omega) (by omega)
  rw [show (-1 + (rs.length : Int)).toNat = rs.length - 1 by omega] at this
  exact this
theorem len_row (r : List Int) : lenD (rowD r) = some (.int r.length) := by
  show some (PyData.int ((r.map PyData.int).length : Int)) = _
  rw [List.length_map]
theorem len_rows (rs : List (List Int)) : lenD (rowsD rs) = some (.int rs.length) := by
  show some (PyData.int ((rs.map rowD).length : Int)) = _
  rw [List.length_map]
theorem len_ints (r : List Int) : lenD (.list (r.map PyData.int)) = some (.int r.length) := by
  rw [lenL, List.length_map]
theorem getD_inG {α : Type} {xs : List α} {k : Nat} {z : α} (h : k < xs.length) : xs.getD k z ∈ xs := by
  rw [List.getD_eq_getElem?_getD, List.getElem?_eq_getElem h]
  exact List.getElem_mem h
/-- one square of a drawn chart -/
theorem square_run (b : Box) {c land unt calm old : Int} (h : Clk c) (h0 : 0 ≤ calm) (h1 : calm ≤ c) : ∃ v b', F__law_square (bD b) [.int c, .int land, .int unt, .int calm, .int old] = .ok (.int v) false (bD b') ∧ -2 ≤ v ∧ v < c ∧ (unt ≤ 0 → -1 ≤ v) := by
  have c0 : 0 < c := by have := h.lo; omega
  have c1 : c < 1000000000000000000000 := by have := h.hi; omega
  have m0 : ∀ z : Int, 0 ≤ z % c := fun z => Int.emod_nonneg z (by omega)
  have m1 : ∀ z : Int, z % c < c := fun z => Int.emod_lt_of_pos z c0
  have T12 := take_eq b (m := 12) (by decide) (by decide)
  generalize (take b 12).1 = w at *
  generalize (take b 12).2 = b2 at *
  by_cases q1 : w < land
  · exact ⟨-1, b2, by simp only [F__law_square, f__law_square, runD, runO, out0, slots0, List.replicate, List.append_nil, List.cons_append, List.nil_append, List.length_cons, List.length_nil, retS, retC, retO, retN, seqS, ifS, asg, asgO, exprS, appS, setS, augS, asgT, raiseS, nxS, op1, op2, op2C, tst, andF, orF, ifF, andB, orB, notB, chF, cst, vr, frz, frC, lstC, tupF, consF, nilF, bltF, bltC, one_d, bind_ok, bind_er, bind_bad, then_ok, then_er, then_bad, opt_some, opt_none, Vl.get, Slot.get, Slot.put, Slot.cont, Slot.lst, Slot.mut, Slot.shal, stables, sh, gets, argD, argB, callF, callO, callC, callB, callW, pick, Pk.of, and_self, boxC, partF, slF, srcF, srcR1, srcR2, srcZ, forS, popF, noEr_ok, noEr_er, yes, List.getElem?_cons_zero, List.getElem?_cons_succ, List.set_cons_zero, List.set_cons_succ, Option.bind_some, Option.bind_none, Option.map_some, Option.map_none, if_true, if_false, Bool.false_eq_true, if_pos, List.map_cons, List.map_nil, add_int, sub_int, negD, notD, boolOf, isD, isntD, isNone, Tg.put, Tg.puts, sh0, sh1, sh2, sh3, sh4, sh5, sh6, sh7, sh8, sh9, sh10, sh11, sh12, sh13, sh14, sh15, sh16, step_nx, step_ct, Nat.add_one_sub_one, Nat.sub_self, Nat.zero_add, Nat.reduceAdd, Nat.reduceSub, T12, ltI, decide_eq_true q1], by omega, by omega, fun _ => by omega⟩
  by_cases q2 : w < land + unt
  · exact ⟨-2, b2, by simp only [F__law_square, f__law_square, runD, runO, out0, slots0, List.replicate, List.append_nil, List.cons_append, List.nil_append, List.length_cons, List.length_nil, retS, retC, retO, retN, seqS, ifS, asg, asgO, exprS, appS, setS, augS, asgT, raiseS, nxS, op1, op2, op2C, tst, andF, orF, ifF, andB, orB, notB, chF, cst, vr, frz, frC, lstC, tupF, consF, nilF, bltF, bltC, one_d, bind_ok, bind_er, bind_bad, then_ok, then_er, then_bad, opt_some, opt_none, Vl.get, Slot.get, Slot.put, Slot.cont, Slot.lst, Slot.mut, Slot.shal, stables, sh, gets, argD, argB, callF, callO, callC, callB, callW, pick, Pk.of, and_self, boxC, partF, slF, srcF, srcR1, srcR2, srcZ, forS, popF, noEr_ok, noEr_er, yes, List.getElem?_cons_zero, List.getElem?_cons_succ, List.set_cons_zero, List.set_cons_succ, Option.bind_some, Option.bind_none, Option.map_some, Option.map_none, if_true, if_false, Bool.false_eq_true, if_pos, List.map_cons, List.map_nil, add_int, sub_int, negD, notD, boolOf, isD, isntD, isNone, Tg.put, Tg.puts, sh0, sh1, sh2, sh3, sh4, sh5, sh6, sh7, sh8, sh9, sh10, sh11, sh12, sh13, sh14, sh15, sh16, step_nx, step_ct, Nat.add_one_sub_one, Nat.sub_self, Nat.zero_add, Nat.reduceAdd, Nat.reduceSub, T12, ltI, decide_eq_false q1, decide_eq_true q2], by omega, by omega, fun _ => by omega⟩
  by_cases q3 : 0 < calm
  · by_cases q4 : 0 ≤ old
    · have T4 := take_eq b2 (m := 4) (by decide) (by decide)
      by_cases q5 : 0 < (take b2 4).1
      · have n0 : (0 : Int) < 2 * calm + 1 := by omega
        have n1 : 2 * calm + 1 < 1000000000000000000000 := by have := h.hi; omega
        refine ⟨_, _, by simp only [F__law_square, f__law_square, runD, runO, out0, slots0, List.replicate, List.append_nil, List.cons_append, List.nil_append, List.length_cons, List.length_nil, retS, retC, retO, retN, seqS, ifS, asg, asgO, exprS, appS, setS, augS, asgT, raiseS, nxS, op1, op2, op2C, tst, andF, orF, ifF, andB, orB, notB, chF, cst, vr, frz, frC, lstC, tupF, consF, nilF, bltF, bltC, one_d, bind_ok, bind_er, bind_bad, then_ok, then_er, then_bad, opt_some, opt_none, Vl.get, Slot.get, Slot.put, Slot.cont, Slot.lst, Slot.mut, Slot.shal, stables, sh, gets, argD, argB, callF, callO, callC, callB, callW, pick, Pk.of, and_self, boxC, partF, slF, srcF, srcR1, srcR2, srcZ, forS, popF, noEr_ok, noEr_er, yes, List.getElem?_cons_zero, List.getElem?_cons_succ, List.set_cons_zero, List.set_cons_succ, Option.bind_some, Option.bind_none, Option.map_some, Option.map_none, if_true, if_false, Bool.false_eq_true, if_pos, List.map_cons, List.map_nil, add_int, sub_int, negD, notD, boolOf, isD, isntD, isNone, Tg.put, Tg.puts, sh0, sh1, sh2, sh3, sh4, sh5, sh6, sh7, sh8, sh9, sh10, sh11, sh12, sh13, sh14, sh15, sh16, step_nx, step_ct, Nat.add_one_sub_one, Nat.sub_self, Nat.zero_add, Nat.reduceAdd, Nat.reduceSub, T12, ltI, gtI, geI, decide_eq_false q1, decide_eq_false q2, decide_eq_true q3, decide_eq_true q4, T4, decide_eq_true q5, mul_l (show (2 : Int).natAbs < 18446744073709551616 by decide), take_eq _ n0 n1, mod_p c0]; rfl, ?_, m1 _, fun _ => ?_⟩
        · have := m0 (old + (take (take b2 4).2 (2 * calm + 1)).1 - calm); omega
        · have := m0 (old + (take (take b2 4).2 (2 * calm + 1)).1 - calm); omega
      · refine ⟨_, _, by simp only [F__law_square, f__law_square, runD, runO, out0, slots0, List.replicate, List.append_nil, List.cons_append, List.nil_append, List.length_cons, List.length_nil, retS, retC, retO, retN, seqS, ifS, asg, asgO, exprS, appS, setS, augS, asgT, raiseS, nxS, op1, op2, op2C, tst, andF, orF, ifF, andB, orB, notB, chF, cst, vr, frz, frC, lstC, tupF, consF, nilF, bltF, bltC, one_d, bind_ok, bind_er, bind_bad, then_ok, then_er, then_bad, opt_some, opt_none, Vl.get, Slot.get, Slot.put, Slot.cont, Slot.lst, Slot.mut, Slot.shal, stables, sh, gets, argD, argB, callF, callO, callC, callB, callW, pick, Pk.of, and_self, boxC, partF, slF, srcF, srcR1, srcR2, srcZ, forS, popF, noEr_ok, noEr_er, yes, List.getElem?_cons_zero, List.getElem?_cons_succ, List.set_cons_zero, List.set_cons_succ, Option.bind_some, Option.bind_none, Option.map_some, Option.map_none, if_true, if_false, Bool.false_eq_true, if_pos, List.map_cons, List.map_nil, add_int, sub_int, negD, notD, boolOf, isD, isntD, isNone, Tg.put, Tg.puts, sh0, sh1, sh2, sh3, sh4, sh5, sh6, sh7, sh8, sh9, sh10, sh11, sh12, sh13, sh14, sh15, sh16, step_nx, step_ct, Nat.add_one_sub_one, Nat.sub_self, Nat.zero_add, Nat.reduceAdd, Nat.reduceSub, T12, ltI, gtI, geI, decide_eq_false q1, decide_eq_false q2, decide_eq_true q3, decide_eq_true q4, T4, decide_eq_false q5, take_eq _ c0 c1]; rfl, ?_, take_lt _ c0, fun _ => ?_⟩
        · have := take_nn (take b2 4).2 c0; omega
        · have := take_nn (take b2 4).2 c0; omega
    · refine ⟨_, _, by simp only [F__law_square, f__law_square, runD, runO, out0, slots0, List.replicate, List.append_nil, List.cons_append, List.nil_append, List.length_cons, List.length_nil, retS, retC, retO, retN, seqS, ifS, asg, asgO, exprS, appS, setS, augS, asgT, raiseS, nxS, op1, op2, op2C, tst, andF, orF, ifF, andB, orB, notB, chF, cst, vr, frz, frC, lstC, tupF, consF, nilF, bltF, bltC, one_d, bind_ok, bind_er, bind_bad, then_ok, then_er, then_bad, opt_some, opt_none, Vl.get, Slot.get, Slot.put, Slot.cont, Slot.lst, Slot.mut, Slot.shal, stables, sh, gets, argD, argB, callF, callO, callC, callB, callW, pick, Pk.of, and_self, boxC, partF, slF, srcF, srcR1, srcR2, srcZ, forS, popF, noEr_ok, noEr_er, yes, List.getElem?_cons_zero, List.getElem?_cons_succ, List.set_cons_zero, List.set_cons_succ, Option.bind_some, Option.bind_none, Option.map_some, Option.map_none, if_true, if_false, Bool.false_eq_true, if_pos, List.map_cons, List.map_nil, add_int, sub_int, negD, notD, boolOf, isD, isntD, isNone, Tg.put, Tg.puts, sh0, sh1, sh2, sh3, sh4, sh5, sh6, sh7, sh8, sh9, sh10, sh11, sh12, sh13, sh14, sh15, sh16, step_nx, step_ct, Nat.add_one_sub_one, Nat.sub_self, Nat.zero_add, Nat.reduceAdd, Nat.reduceSub, T12, ltI, gtI, geI, decide_eq_false q1, decide_eq_false q2, decide_eq_true q3, decide_eq_false q4, take_eq _ c0 c1]; rfl, ?_, take_lt _ c0, fun _ => ?_⟩
      · have := take_nn b2 c0; omega
      · have := take_nn b2 c0; omega
  · refine ⟨_, _, by simp only [F__law_square, f__law_square, runD, runO, out0, slots0, List.replicate, List.append_nil, List.cons_append, List.nil_append, List.length_cons, List.length_nil, retS, retC, retO, retN, seqS, ifS, asg, asgO, exprS, appS, setS, augS, asgT, raiseS, nxS, op1, op2, op2C, tst, andF, orF, ifF, andB, orB, notB, chF, cst, vr, frz, frC, lstC, tupF, consF, nilF, bltF, bltC, one_d, bind_ok, bind_er, bind_bad, then_ok, then_er, then_bad, opt_some, opt_none, Vl.get, Slot.get, Slot.put, Slot.cont, Slot.lst, Slot.mut, Slot.shal, stables, sh, gets, argD, argB, callF, callO, callC, callB, callW, pick, Pk.of, and_self, boxC, partF, slF, srcF, srcR1, srcR2, srcZ, forS, popF, noEr_ok, noEr_er, yes, List.getElem?_cons_zero, List.getElem?_cons_succ, List.set_cons_zero, List.set_cons_succ, Option.bind_some, Option.bind_none, Option.map_some, Option.map_none, if_true, if_false, Bool.false_eq_true, if_pos, List.map_cons, List.map_nil, add_int, sub_int, negD, notD, boolOf, isD, isntD, isNone, Tg.put, Tg.puts, sh0, sh1, sh2, sh3, sh4, sh5, sh6, sh7, sh8, sh9, sh10, sh11, sh12, sh13, sh14, sh15, sh16, step_nx, step_ct, Nat.add_one_sub_one, Nat.sub_self, Nat.zero_add, Nat.reduceAdd, Nat.reduceSub, T12, ltI, gtI, geI, decide_eq_false q1, decide_eq_false q2, decide_eq_false q3, take_eq _ c0 c1]; rfl, ?_, take_lt _ c0, fun _ => ?_⟩
    · have := take_nn b2 c0; omega
    · have := take_nn b2 c0; omega
theorem neg_at' {ns : List Int} {i : Int} (h1 : -(ns.length : Int) ≤ i) (h2 : i < 0) : ixD (.list (ns.map PyData.int)) (.int i) = some (.int (ns.getD (i + ns.length).toNat 0)) := neg_atG PyData.int 0 h1 h2
/-- the hour near by: any number -/
theorem near_run {rs : List (List Int)} {line : List Int} (h : ∀ r ∈ rs, line.length < r.length) : ∃ v, F__law_near_hour [.list (rs.map rowD), .list (line.map PyData.int)] = .ok (.int v) false .none := by
  have rest : ∃ v, (ifF (bF (op2 neD (vr 0) (frC (lstC nilF)))) (op2 ixD (op2 ixD (vr 0) (op1 negD (cst (.int 1)))) (bltF (one lenD) (consF (vr 1) nilF))) (cst (.int 0))) [.val (.list (rs.map rowD)), .val (.list (line.map PyData.int))] = .ok (.st (.int v)) [.val (.list (rs.map rowD)), .val (.list (line.map PyData.int))] := by
    by_cases q : rs = []
    · have e := ne_rows_nil rs
      subst q
      refine ⟨0, ?_⟩
      simp only [List.map_nil, List.isEmpty_nil, Bool.not_true] at e
      simp only [runD, runO, out0, slots0, List.replicate, List.append_nil, List.cons_append, List.nil_append, List.length_cons, List.length_nil, retS, retC, retO, retN, seqS, ifS, asg, asgO, exprS, appS, setS, augS, asgT, raiseS, nxS, op1, op2, op2C, tst, andF, orF, ifF, andB, orB, notB, chF, cst, vr, frz, frC, lstC, tupF, consF, nilF, bltF, bltC, one_d, bind_ok, bind_er, bind_bad, then_ok, then_er, then_bad, opt_some, opt_none, Vl.get, Slot.get, Slot.put, Slot.cont, Slot.lst, Slot.mut, Slot.shal, stables, sh, gets, argD, argB, callF, callO, callC, callB, callW, pick, Pk.of, and_self, boxC, partF, slF, srcF, srcR1, srcR2, srcZ, forS, popF, noEr_ok, noEr_er, yes, List.getElem?_cons_zero, List.getElem?_cons_succ, List.set_cons_zero, List.set_cons_succ, Option.bind_some, Option.bind_none, Option.map_some, Option.map_none, if_true, if_false, Bool.false_eq_true, if_pos, List.map_cons, List.map_nil, add_int, sub_int, negD, notD, boolOf, isD, isntD, isNone, Tg.put, Tg.puts, sh0, sh1, sh2, sh3, sh4, sh5, sh6, sh7, sh8, sh9, sh10, sh11, sh12, sh13, sh14, sh15, sh16, step_nx, step_ct, Nat.add_one_sub_one, Nat.sub_self, Nat.zero_add, Nat.reduceAdd, Nat.reduceSub, e]
    · have e := ne_rows_nil rs
      have e1 : rs.isEmpty = false := by cases rs with
        | nil => exact absurd rfl q
        | cons => rfl
      rw [e1, Bool.not_false] at e
      have lp := List.length_pos_iff.mpr q
      have hk := h (rs.getD (rs.length - 1) []) (getD_inG (by omega))
      exact ⟨_, by simp only [runD, runO, out0, slots0, List.replicate, List.append_nil, List.cons_append, List.nil_append, List.length_cons, List.length_nil, retS, retC, retO, retN, seqS, ifS, asg, asgO, exprS, appS, setS, augS, asgT, raiseS, nxS, op1, op2, op2C, tst, andF, orF, ifF, andB, orB, notB, chF, cst, vr, frz, frC, lstC, tupF, consF, nilF, bltF, bltC, one_d, bind_ok, bind_er, bind_bad, then_ok, then_er, then_bad, opt_some, opt_none, Vl.get, Slot.get, Slot.put, Slot.cont, Slot.lst, Slot.mut, Slot.shal, stables, sh, gets, argD, argB, callF, callO, callC, callB, callW, pick, Pk.of, and_self, boxC, partF, slF, srcF, srcR1, srcR2, srcZ, forS, popF, noEr_ok, noEr_er, yes, List.getElem?_cons_zero, List.getElem?_cons_succ, List.set_cons_zero, List.set_cons_succ, Option.bind_some, Option.bind_none, Option.map_some, Option.map_none, if_true, if_false, Bool.false_eq_true, if_pos, List.map_cons, List.map_nil, add_int, sub_int, negD, notD, boolOf, isD, isntD, isNone, Tg.put, Tg.puts, sh0, sh1, sh2, sh3, sh4, sh5, sh6, sh7, sh8, sh9, sh10, sh11, sh12, sh13, sh14, sh15, sh16, step_nx, step_ct, Nat.add_one_sub_one, Nat.sub_self, Nat.zero_add, Nat.reduceAdd, Nat.reduceSub, e, negD, rowsL_neg q, len_ints, row_at hk]; rfl⟩
  obtain ⟨v, rest⟩ := rest
  by_cases q : line = []
  · have e := ne_ints_nil line
    refine ⟨v, ?_⟩
    subst q
    simp only [List.map_nil, List.isEmpty_nil, Bool.not_true] at e
    simp only [List.map_nil] at rest ⊢
    simp only [F__law_near_hour, f__law_near_hour, runD, runO, out0, slots0, List.replicate, List.append_nil, List.cons_append, List.nil_append, List.length_cons, List.length_nil, retS, retC, retO, retN, seqS, ifS, asg, asgO, exprS, appS, setS, augS, asgT, raiseS, nxS, op1, op2, op2C, tst, andF, orF, andB, orB, notB, chF, cst, vr, frz, frC, lstC, tupF, consF, nilF, bltF, bltC, one_d, bind_ok, bind_er, bind_bad, then_ok, then_er, then_bad, opt_some, opt_none, Vl.get, Slot.get, Slot.put, Slot.cont, Slot.lst, Slot.mut, Slot.shal, stables, sh, gets, argD, argB, callF, callO, callC, callB, callW, pick, Pk.of, and_self, boxC, partF, slF, srcF, srcR1, srcR2, srcZ, forS, popF, noEr_ok, noEr_er, yes, List.getElem?_cons_zero, List.getElem?_cons_succ, List.set_cons_zero, List.set_cons_succ, Option.bind_some, Option.bind_none, Option.map_some, Option.map_none, if_true, if_false, Bool.false_eq_true, if_pos, List.map_cons, List.map_nil, add_int, sub_int, negD, notD, boolOf, isD, isntD, isNone, Tg.put, Tg.puts, sh0, sh1, sh2, sh3, sh4, sh5, sh6, sh7, sh8, sh9, sh10, sh11, sh12, sh13, sh14, sh15, sh16, step_nx, step_ct, Nat.add_one_sub_one, Nat.sub_self, Nat.zero_add, Nat.reduceAdd, Nat.reduceSub, e, rest]
  · have e := ne_ints_nil line
    have e1 : line.isEmpty = false := by cases line with
      | nil => exact absurd rfl q
      | cons => rfl
    rw [e1, Bool.not_false] at e
    have lp := List.length_pos_iff.mpr q
    have e2 := neg_at' (ns := line) (i := -1) (by omega) (by omega)
    generalize line.getD (-1 + (line.length : Int)).toNat 0 = z at *
    by_cases q2 : 0 ≤ z
    · exact ⟨z, by simp only [F__law_near_hour, f__law_near_hour, runD, runO, out0, slots0, List.replicate, List.append_nil, List.cons_append, List.nil_append, List.length_cons, List.length_nil, retS, retC, retO, retN, seqS, ifS, asg, asgO, exprS, appS, setS, augS, asgT, raiseS, nxS, op1, op2, op2C, tst, andF, orF, andB, orB, notB, chF, cst, vr, frz, frC, lstC, tupF, consF, nilF, bltF, bltC, one_d, bind_ok, bind_er, bind_bad, then_ok, then_er, then_bad, opt_some, opt_none, Vl.get, Slot.get, Slot.put, Slot.cont, Slot.lst, Slot.mut, Slot.shal, stables, sh, gets, argD, argB, callF, callO, callC, callB, callW, pick, Pk.of, and_self, boxC, partF, slF, srcF, srcR1, srcR2, srcZ, forS, popF, noEr_ok, noEr_er, yes, List.getElem?_cons_zero, List.getElem?_cons_succ, List.set_cons_zero, List.set_cons_succ, Option.bind_some, Option.bind_none, Option.map_some, Option.map_none, if_true, if_false, Bool.false_eq_true, if_pos, List.map_cons, List.map_nil, add_int, sub_int, negD, notD, boolOf, isD, isntD, isNone, Tg.put, Tg.puts, sh0, sh1, sh2, sh3, sh4, sh5, sh6, sh7, sh8, sh9, sh10, sh11, sh12, sh13, sh14, sh15, sh16, step_nx, step_ct, Nat.add_one_sub_one, Nat.sub_self, Nat.zero_add, Nat.reduceAdd, Nat.reduceSub, e, negD, e2, geI, decide_eq_true q2]⟩
    · exact ⟨v, by simp only [F__law_near_hour, f__law_near_hour, runD, runO, out0, slots0, List.replicate, List.append_nil, List.cons_append, List.nil_append, List.length_cons, List.length_nil, retS, retC, retO, retN, seqS, ifS, asg, asgO, exprS, appS, setS, augS, asgT, raiseS, nxS, op1, op2, op2C, tst, andF, orF, andB, orB, notB, chF, cst, vr, frz, frC, lstC, tupF, consF, nilF, bltF, bltC, one_d, bind_ok, bind_er, bind_bad, then_ok, then_er, then_bad, opt_some, opt_none, Vl.get, Slot.get, Slot.put, Slot.cont, Slot.lst, Slot.mut, Slot.shal, stables, sh, gets, argD, argB, callF, callO, callC, callB, callW, pick, Pk.of, and_self, boxC, partF, slF, srcF, srcR1, srcR2, srcZ, forS, popF, noEr_ok, noEr_er, yes, List.getElem?_cons_zero, List.getElem?_cons_succ, List.set_cons_zero, List.set_cons_succ, Option.bind_some, Option.bind_none, Option.map_some, Option.map_none, if_true, if_false, Bool.false_eq_true, if_pos, List.map_cons, List.map_nil, add_int, sub_int, negD, notD, boolOf, isD, isntD, isNone, Tg.put, Tg.puts, sh0, sh1, sh2, sh3, sh4, sh5, sh6, sh7, sh8, sh9, sh10, sh11, sh12, sh13, sh14, sh15, sh16, step_nx, step_ct, Nat.add_one_sub_one, Nat.sub_self, Nat.zero_add, Nat.reduceAdd, Nat.reduceSub, e, negD, e2, geI, decide_eq_false q2, rest]⟩
structure Ch (most unt c : Int) (wide : Nat) (rs : List (List Int)) : Prop where
  clk : Clk c
  len : 1 ≤ rs.length ∧ (rs.length : Int) ≤ most
  w : 1 ≤ wide ∧ (wide : Int) ≤ most
  rect : ∀ r ∈ rs, r.length = wide
  cell : ∀ r ∈ rs, ∀ v ∈ r, -2 ≤ v ∧ v < c ∧ (unt ≤ 0 → -1 ≤ v)
/-- the squares of a drawn row -/
theorem line_run {rs : List (List Int)} {b : Box} {c most unt hi wi land calm : Int} {wide : Nat} {x9 x11 : DL.Slot} (hc : Clk c) (h0 : 0 ≤ calm) (h1 : calm ≤ c) (hw : (wide : Int) = wi) (hw2 : wi ≤ 1000) (hr : ∀ r ∈ rs, r.length = wide) :
    Nx L__law_chart_1
      [.arg (bD b), .val (.int most), .val (.int unt), .val (.int c), .val (.int hi), .val (.int wi), .val (.int land), .val (.int calm), .own (.list (rs.map rowD)), x9, .own (.list []), x11]
      (fun ρ => ∃ (b : Box) (line : List Int) (x11 : DL.Slot), line.length = wide ∧ (∀ v ∈ line, -2 ≤ v ∧ v < c ∧ (unt ≤ 0 → -1 ≤ v)) ∧ ρ = [.arg (bD b), .val (.int most), .val (.int unt), .val (.int c), .val (.int hi), .val (.int wi), .val (.int land), .val (.int calm), .own (.list (rs.map rowD)), x9, .own (.list (line.map PyData.int)), x11]) := by
  have r0 : rngOk wi = true := rng_fit (by omega) (by omega)
  refine Nx.for_ (ds := rng 0 wi) (ρ1 := [.arg (bD b), .val (.int most), .val (.int unt), .val (.int c), .val (.int hi), .val (.int wi), .val (.int land), .val (.int calm), .own (.list (rs.map rowD)), x9, .own (.list []), x11])
    (fun k ρ => ∃ (b : Box) (line : List Int) (x11 : DL.Slot), line.length = k ∧ (∀ v ∈ line, -2 ≤ v ∧ v < c ∧ (unt ≤ 0 → -1 ≤ v)) ∧ ρ = [.arg (bD b), .val (.int most), .val (.int unt), .val (.int c), .val (.int hi), .val (.int wi), .val (.int land), .val (.int calm), .own (.list (rs.map rowD)), x9, .own (.list (line.map PyData.int)), x11])
    (by simp only [runD, runO, out0, slots0, List.replicate, List.append_nil, List.cons_append, List.nil_append, List.length_cons, List.length_nil, retS, retC, retO, retN, seqS, ifS, asg, asgO, exprS, appS, setS, augS, asgT, raiseS, nxS, op1, op2, op2C, tst, andF, orF, ifF, andB, orB, notB, chF, cst, vr, frz, frC, lstC, tupF, consF, nilF, bltF, bltC, one_d, bind_ok, bind_er, bind_bad, then_ok, then_er, then_bad, opt_some, opt_none, Vl.get, Slot.get, Slot.put, Slot.cont, Slot.lst, Slot.mut, Slot.shal, stables, sh, gets, argD, argB, callF, callO, callC, callB, callW, pick, Pk.of, and_self, boxC, partF, slF, srcF, srcR1, srcR2, srcZ, forS, popF, noEr_ok, noEr_er, yes, List.getElem?_cons_zero, List.getElem?_cons_succ, List.set_cons_zero, List.set_cons_succ, Option.bind_some, Option.bind_none, Option.map_some, Option.map_none, if_true, if_false, Bool.false_eq_true, if_pos, List.map_cons, List.map_nil, add_int, sub_int, negD, notD, boolOf, isD, isntD, isNone, Tg.put, Tg.puts, sh0, sh1, sh2, sh3, sh4, sh5, sh6, sh7, sh8, sh9, sh10, sh11, sh12, sh13, sh14, sh15, sh16, step_nx, step_ct, Nat.add_one_sub_one, Nat.sub_self, Nat.zero_add, Nat.reduceAdd, Nat.reduceSub, r0]) ⟨b, [], x11, rfl, (by intro v hv; cases hv), rfl⟩ ?_ ?_
  · rintro k d ρ hk ⟨b, line, x11, hl, hv, rfl⟩
    obtain ⟨rfl, hk2⟩ := rng_at hk
    refine ⟨_, rfl, ?_⟩
    obtain ⟨o, eo⟩ := near_run (rs := rs) (line := line) fun r hm => by rw [hr r hm]; omega
    obtain ⟨v, b', ev, v1, v2, v3⟩ := square_run b (land := land) (unt := unt) (old := o) hc h0 h1
    have hlt : (line.map PyData.int).length < 100000 := by rw [List.length_map]; omega
    simp only [B__law_chart_1, runD, runO, out0, slots0, List.replicate, List.append_nil, List.cons_append, List.nil_append, List.length_cons, List.length_nil, retS, retC, retO, retN, seqS, ifS, asg, asgO, exprS, appS, setS, augS, asgT, raiseS, nxS, op1, op2, op2C, tst, andF, orF, ifF, andB, orB, notB, chF, cst, vr, frz, frC, lstC, tupF, consF, nilF, bltF, bltC, one_d, bind_ok, bind_er, bind_bad, then_ok, then_er, then_bad, opt_some, opt_none, Vl.get, Slot.get, Slot.put, Slot.cont, Slot.lst, Slot.mut, Slot.shal, stables, sh, gets, argD, argB, callF, callO, callC, callB, callW, pick, Pk.of, and_self, boxC, partF, slF, srcF, srcR1, srcR2, srcZ, forS, popF, noEr_ok, noEr_er, yes, List.getElem?_cons_zero, List.getElem?_cons_succ, List.set_cons_zero, List.set_cons_succ, Option.bind_some, Option.bind_none, Option.map_some, Option.map_none, if_true, if_false, Bool.false_eq_true, if_pos, List.map_cons, List.map_nil, add_int, sub_int, negD, notD, boolOf, isD, isntD, isNone, Tg.put, Tg.puts, sh0, sh1, sh2, sh3, sh4, sh5, sh6, sh7, sh8, sh9, sh10, sh11, sh12, sh13, sh14, sh15, sh16, step_nx, step_ct, Nat.add_one_sub_one, Nat.sub_self, Nat.zero_add, Nat.reduceAdd, Nat.reduceSub, argB, flat, eo, ev, if_pos hlt]
    refine ⟨b', line ++ [v], _, by rw [List.length_append, hl]; rfl, fun z hz => ?_, by rw [List.map_append]; rfl⟩
    rcases List.mem_append.mp hz with hz | hz
    · exact hv z hz
    · rw [List.mem_singleton] at hz
      subst hz
      exact ⟨v1, v2, v3⟩
  · rintro ρ ⟨b, line, x11, hl, hv, rfl⟩
    rw [rng_len] at hl
    exact ⟨b, line, x11, by omega, hv, rfl⟩
theorem pick5 {a0 a1 a2 a3 a4 i : Int} (h : 0 ≤ i) (h2 : i < 5) : [a0, a1, a2, a3, a4].getD i.toNat 0 = a0 ∨ [a0, a1, a2, a3, a4].getD i.toNat 0 = a1 ∨ [a0, a1, a2, a3, a4].getD i.toNat 0 = a2 ∨ [a0, a1, a2, a3, a4].getD i.toNat 0 = a3 ∨ [a0, a1, a2, a3, a4].getD i.toNat 0 = a4 := by
  obtain ⟨n, rfl⟩ := Int.eq_ofNat_of_zero_le h
  rw [Int.toNat_natCast]
  have : n = 0 ∨ n = 1 ∨ n = 2 ∨ n = 3 ∨ n = 4 := by omega
  rcases this with rfl | rfl | rfl | rfl | rfl <;> simp
theorem pick3 {a0 a1 a2 i : Int} (h : 0 ≤ i) (h2 : i < 3) : [a0, a1, a2].getD i.toNat 0 = a0 ∨ [a0, a1, a2].getD i.toNat 0 = a1 ∨ [a0, a1, a2].getD i.toNat 0 = a2 := by
  obtain ⟨n, rfl⟩ := Int.eq_ofNat_of_zero_le h
  rw [Int.toNat_natCast]
  have : n = 0 ∨ n = 1 ∨ n = 2 := by omega
  rcases this with rfl | rfl | rfl <;> simp
/-- the rows of a drawn chart -/
theorem chart_loop {b : Box} {c most unt hi wi land calm : Int} {wide high : Nat} {x9 x10 x11 : DL.Slot} (hc : Clk c) (h0 : 0 ≤ calm) (h1 : calm ≤ c) (hw : (wide : Int) = wi) (hw2 : wi ≤ 1000) (hh : (high : Int) = hi) (hh2 : hi ≤ 1000) :
  Nx L__law_chart_2
      [.arg (bD b), .val (.int most), .val (.int unt), .val (.int c), .val (.int hi), .val (.int wi), .val (.int land), .val (.int calm), .own (.list []), x9, x10, x11]
      (fun ρ => ∃ (b : Box) (rs : List (List Int)) (x9 x10 x11 : DL.Slot), rs.length = high ∧ (∀ r ∈ rs, r.length = wide) ∧ (∀ r ∈ rs, ∀ v ∈ r, -2 ≤ v ∧ v < c ∧ (unt ≤ 0 → -1 ≤ v)) ∧
        ρ = [.arg (bD b), .val (.int most), .val (.int unt), .val (.int c), .val (.int hi), .val (.int wi), .val (.int land), .val (.int calm), .own (.list (rs.map rowD)), x9, x10, x11]) := by
  have r0 : rngOk hi = true := rng_fit (by omega) (by omega)
  refine Nx.for_ (ds := rng 0 hi) (ρ1 := [.arg (bD b), .val (.int most), .val (.int unt), .val (.int c), .val (.int hi), .val (.int wi), .val (.int land), .val (.int calm), .own (.list []), x9, x10, x11])
    (fun k ρ => ∃ (b : Box) (rs : List (List Int)) (x9 x10 x11 : DL.Slot), rs.length = k ∧ (∀ r ∈ rs, r.length = wide) ∧ (∀ r ∈ rs, ∀ v ∈ r, -2 ≤ v ∧ v < c ∧ (unt ≤ 0 → -1 ≤ v)) ∧
        ρ = [.arg (bD b), .val (.int most), .val (.int unt), .val (.int c), .val (.int hi), .val (.int wi), .val (.int land), .val (.int calm), .own (.list (rs.map rowD)), x9, x10, x11])
    (by simp only [runD, runO, out0, slots0, List.replicate, List.append_nil, List.cons_append, List.nil_append, List.length_cons, List.length_nil, retS, retC, retO, retN, seqS, ifS, asg, asgO, exprS, appS, setS, augS, asgT, raiseS, nxS, op1, op2, op2C, tst, andF, orF, ifF, andB, orB, notB, chF, cst, vr, frz, frC, lstC, tupF, consF, nilF, bltF, bltC, one_d, bind_ok, bind_er, bind_bad, then_ok, then_er, then_bad, opt_some, opt_none, Vl.get, Slot.get, Slot.put, Slot.cont, Slot.lst, Slot.mut, Slot.shal, stables, sh, gets, argD, argB, callF, callO, callC, callB, callW, pick, Pk.of, and_self, boxC, partF, slF, srcF, srcR1, srcR2, srcZ, forS, popF, noEr_ok, noEr_er, yes, List.getElem?_cons_zero, List.getElem?_cons_succ, List.set_cons_zero, List.set_cons_succ, Option.bind_some, Option.bind_none, Option.map_some, Option.map_none, if_true, if_false, Bool.false_eq_true, if_pos, List.map_cons, List.map_nil, add_int, sub_int, negD, notD, boolOf, isD, isntD, isNone, Tg.put, Tg.puts, sh0, sh1, sh2, sh3, sh4, sh5, sh6, sh7, sh8, sh9, sh10, sh11, sh12, sh13, sh14, sh15, sh16, step_nx, step_ct, Nat.add_one_sub_one, Nat.sub_self, Nat.zero_add, Nat.reduceAdd, Nat.reduceSub, r0]) ⟨b, [], x9, x10, x11, rfl, (by intro v hv; cases hv), (by intro v hv; cases hv), rfl⟩ ?_ ?_
  · rintro k d ρ hk ⟨b, rs, x9, x10, x11, hl, hr, hv, rfl⟩
    obtain ⟨rfl, hk2⟩ := rng_at hk
    refine ⟨_, rfl, ?_⟩
    obtain ⟨ρ', e, b', line, x11', l1, l2, rfl⟩ := line_run (b := b) (most := most) (unt := unt) (hi := hi) (land := land) (x9 := .val (.int (0 + (k : Int)))) (x11 := x11) hc h0 h1 hw hw2 hr
    have hlt : (rs.map rowD).length < 100000 := by rw [List.length_map]; omega
    have e1 : asgO 10 (lstC nilF) [.arg (bD b), .val (.int most), .val (.int unt), .val (.int c), .val (.int hi), .val (.int wi), .val (.int land), .val (.int calm), .own (.list (rs.map rowD)), .val (.int (0 + (k : Int))), x10, x11]
      = .nx [.arg (bD b), .val (.int most), .val (.int unt), .val (.int c), .val (.int hi), .val (.int wi), .val (.int land), .val (.int calm), .own (.list (rs.map rowD)), .val (.int (0 + (k : Int))), .own (.list []), x11] := by simp only [runD, runO, out0, slots0, List.replicate, List.append_nil, List.cons_append, List.nil_append, List.length_cons, List.length_nil, retS, retC, retO, retN, seqS, ifS, asg, asgO, exprS, appS, setS, augS, asgT, raiseS, nxS, op1, op2, op2C, tst, andF, orF, ifF, andB, orB, notB, chF, cst, vr, frz, frC, lstC, tupF, consF, nilF, bltF, bltC, one_d, bind_ok, bind_er, bind_bad, then_ok, then_er, then_bad, opt_some, opt_none, Vl.get, Slot.get, Slot.put, Slot.cont, Slot.lst, Slot.mut, Slot.shal, stables, sh, gets, argD, argB, callF, callO, callC, callB, callW, pick, Pk.of, and_self, boxC, partF, slF, srcF, srcR1, srcR2, srcZ, forS, popF, noEr_ok, noEr_er, yes, List.getElem?_cons_zero, List.getElem?_cons_succ, List.set_cons_zero, List.set_cons_succ, Option.bind_some, Option.bind_none, Option.map_some, Option.map_none, if_true, if_false, Bool.false_eq_true, if_pos, List.map_cons, List.map_nil, add_int, sub_int, negD, notD, boolOf, isD, isntD, isNone, Tg.put, Tg.puts, sh0, sh1, sh2, sh3, sh4, sh5, sh6, sh7, sh8, sh9, sh10, sh11, sh12, sh13, sh14, sh15, sh16, step_nx, step_ct, Nat.add_one_sub_one, Nat.sub_self, Nat.zero_add, Nat.reduceAdd, Nat.reduceSub]
    simp only [List.set_cons_succ, List.set_cons_zero]
    unfold B__law_chart_2 seqS
    rw [e1]
    dsimp only
    rw [e]
    dsimp only
    have tl : tupleD (.list (line.map PyData.int)) = some (rowD line) := rfl
    simp only [runD, runO, out0, slots0, List.replicate, List.append_nil, List.cons_append, List.nil_append, List.length_cons, List.length_nil, retS, retC, retO, retN, seqS, ifS, asg, asgO, exprS, appS, setS, augS, asgT, raiseS, nxS, op1, op2, op2C, tst, andF, orF, ifF, andB, orB, notB, chF, cst, vr, frz, frC, lstC, tupF, consF, nilF, bltF, bltC, one_d, bind_ok, bind_er, bind_bad, then_ok, then_er, then_bad, opt_some, opt_none, Vl.get, Slot.get, Slot.put, Slot.cont, Slot.lst, Slot.mut, Slot.shal, stables, sh, gets, argD, argB, callF, callO, callC, callB, callW, pick, Pk.of, and_self, boxC, partF, slF, srcF, srcR1, srcR2, srcZ, forS, popF, noEr_ok, noEr_er, yes, List.getElem?_cons_zero, List.getElem?_cons_succ, List.set_cons_zero, List.set_cons_succ, Option.bind_some, Option.bind_none, Option.map_some, Option.map_none, if_true, if_false, Bool.false_eq_true, if_pos, List.map_cons, List.map_nil, add_int, sub_int, negD, notD, boolOf, isD, isntD, isNone, Tg.put, Tg.puts, sh0, sh1, sh2, sh3, sh4, sh5, sh6, sh7, sh8, sh9, sh10, sh11, sh12, sh13, sh14, sh15, sh16, step_nx, step_ct, Nat.add_one_sub_one, Nat.sub_self, Nat.zero_add, Nat.reduceAdd, Nat.reduceSub, tl, if_pos hlt]
    refine ⟨b', rs ++ [line], _, _, _, by rw [List.length_append, hl]; rfl, fun r hm => ?_, fun r hm => ?_, by rw [List.map_append]; rfl⟩
    · rcases List.mem_append.mp hm with z | z
      · exact hr r z
      · rw [List.mem_singleton] at z
        subst z
        exact l1
    · rcases List.mem_append.mp hm with z | z
      · exact hv r z
      · rw [List.mem_singleton] at z
        subst z
        exact l2
  · rintro ρ ⟨b, rs, x9, x10, x11, hl, hr, hv, rfl⟩
    rw [rng_len] at hl
    exact ⟨b, rs, x9, x10, x11, by omega, hr, hv, rfl⟩
/-- a drawn chart -/
theorem chart_run (b : Box) {most unt : Int} (h : 1 ≤ most) (h2 : most ≤ 100) : ∃ c wide rs b', F__law_chart (bD b) [.int most, .int unt] = .ok (chD c rs) false (bD b') ∧ Ch most unt c wide rs := by
  have hc := clkOf_clk b
  have m0 : 0 < most := by omega
  have m1 : most < 1000000000000000000000 := by omega
  generalize ec : clkOf b = c at *
  generalize eb : (take b 7).2 = b1
  generalize eb2 : (take b1 most).2 = b2
  generalize eb3 : (take b2 most).2 = b3
  generalize eb4 : (take b3 5).2 = b4
  generalize eb5 : (take b4 3).2 = b5
  obtain ⟨hn, eh⟩ := Int.eq_ofNat_of_zero_le (show 0 ≤ 1 + (take b1 most).1 by have := take_nn b1 m0; omega)
  obtain ⟨wn, ew⟩ := Int.eq_ofNat_of_zero_le (show 0 ≤ 1 + (take b2 most).1 by have := take_nn b2 m0; omega)
  have q1 := take_lt b1 m0
  have q2 := take_lt b2 m0
  have q3 := take_nn b1 m0
  have q4 := take_nn b2 m0
  generalize el : ([0, 0, 1, 3, 5] : List Int).getD (take b3 5).1.toNat 0 = land
  have hcalm : 0 ≤ [0, 1, c / 3].getD (take b4 3).1.toNat 0 ∧ [0, 1, c / 3].getD (take b4 3).1.toNat 0 ≤ c := by
    have := hc.lo
    rcases pick3 (a0 := 0) (a1 := 1) (a2 := c / 3) (take_nn b4 (show (0 : Int) < 3 by decide)) (take_lt b4 (show (0 : Int) < 3 by decide)) with e | e | e <;> rw [e] <;> omega
  generalize ecm : [0, 1, c / 3].getD (take b4 3).1.toNat 0 = calm at *
  obtain ⟨ρ', e, b', rs, x9, x10, x11, l1, l2, l3, rfl⟩ := chart_loop (b := b5) (c := c) (most := most) (unt := unt) (hi := 1 + (take b1 most).1) (wi := 1 + (take b2 most).1) (land := land) (calm := calm) (x9 := .un) (x10 := .un) (x11 := .un) (wide := wn) (high := hn) hc hcalm.1 hcalm.2 ew.symm (by omega) eh.symm (by omega)
  have tl : tupleD (.list (rs.map rowD)) = some (rowsD rs) := rfl
  have cl : F__law_clock (bD b) [] = .ok (.int c) false (bD b1) := by rw [clock_eq, ec, eb]
  have T1 := take_eq b1 m0 m1
  have T2 := take_eq b2 m0 m1
  have T3 := take_eq b3 (m := 5) (by decide) (by decide)
  have T4 := take_eq b4 (m := 3) (by decide) (by decide)
  rw [eb2] at T1
  rw [eb3] at T2
  rw [eb4] at T3
  rw [eb5] at T4
  refine ⟨c, wn, rs, b', ?_, hc, ⟨by omega, by omega⟩, ⟨by omega, by omega⟩, l2, l3⟩
  have g : RtV f__law_chart [.arg (bD b), .val (.int most), .val (.int unt), .un, .un, .un, .un, .un, .un, .un, .un, .un] (.tuple [.int c, rowsD rs]) false (fun ρ => ∃ l, ρ = .arg (bD b') :: l) := by
    unfold f__law_chart
    refine RtV.seq (P := fun ρ => ρ = [.arg (bD b1), .val (.int most), .val (.int unt), .val (.int c), .un, .un, .un, .un, .un, .un, .un, .un]) ⟨_, by simp only [runD, runO, out0, slots0, List.replicate, List.append_nil, List.cons_append, List.nil_append, List.length_cons, List.length_nil, retS, retC, retO, retN, seqS, ifS, asg, asgO, exprS, appS, setS, augS, asgT, raiseS, nxS, op1, op2, op2C, tst, andF, orF, ifF, andB, orB, notB, chF, cst, vr, frz, frC, lstC, tupF, consF, nilF, bltF, bltC, one_d, bind_ok, bind_er, bind_bad, then_ok, then_er, then_bad, opt_some, opt_none, Vl.get, Slot.get, Slot.put, Slot.cont, Slot.lst, Slot.mut, Slot.shal, stables, sh, gets, argD, argB, callF, callO, callC, callB, callW, pick, Pk.of, and_self, boxC, partF, slF, srcF, srcR1, srcR2, srcZ, forS, popF, noEr_ok, noEr_er, yes, List.getElem?_cons_zero, List.getElem?_cons_succ, List.set_cons_zero, List.set_cons_succ, Option.bind_some, Option.bind_none, Option.map_some, Option.map_none, if_true, if_false, Bool.false_eq_true, if_pos, List.map_cons, List.map_nil, add_int, sub_int, negD, notD, boolOf, isD, isntD, isNone, Tg.put, Tg.puts, sh0, sh1, sh2, sh3, sh4, sh5, sh6, sh7, sh8, sh9, sh10, sh11, sh12, sh13, sh14, sh15, sh16, step_nx, step_ct, Nat.add_one_sub_one, Nat.sub_self, Nat.zero_add, Nat.reduceAdd, Nat.reduceSub, cl], rfl⟩ ?_
    rintro ρ rfl
    refine RtV.seq (P := fun ρ => ρ = [.arg (bD b2), .val (.int most), .val (.int unt), .val (.int c), .val (.int (1 + (take b1 most).1)), .un, .un, .un, .un, .un, .un, .un]) ⟨_, by simp only [runD, runO, out0, slots0, List.replicate, List.append_nil, List.cons_append, List.nil_append, List.length_cons, List.length_nil, retS, retC, retO, retN, seqS, ifS, asg, asgO, exprS, appS, setS, augS, asgT, raiseS, nxS, op1, op2, op2C, tst, andF, orF, ifF, andB, orB, notB, chF, cst, vr, frz, frC, lstC, tupF, consF, nilF, bltF, bltC, one_d, bind_ok, bind_er, bind_bad, then_ok, then_er, then_bad, opt_some, opt_none, Vl.get, Slot.get, Slot.put, Slot.cont, Slot.lst, Slot.mut, Slot.shal, stables, sh, gets, argD, argB, callF, callO, callC, callB, callW, pick, Pk.of, and_self, boxC, partF, slF, srcF, srcR1, srcR2, srcZ, forS, popF, noEr_ok, noEr_er, yes, List.getElem?_cons_zero, List.getElem?_cons_succ, List.set_cons_zero, List.set_cons_succ, Option.bind_some, Option.bind_none, Option.map_some, Option.map_none, if_true, if_false, Bool.false_eq_true, if_pos, List.map_cons, List.map_nil, add_int, sub_int, negD, notD, boolOf, isD, isntD, isNone, Tg.put, Tg.puts, sh0, sh1, sh2, sh3, sh4, sh5, sh6, sh7, sh8, sh9, sh10, sh11, sh12, sh13, sh14, sh15, sh16, step_nx, step_ct, Nat.add_one_sub_one, Nat.sub_self, Nat.zero_add, Nat.reduceAdd, Nat.reduceSub, T1], rfl⟩ ?_
    rintro ρ rfl
    refine RtV.seq (P := fun ρ => ρ = [.arg (bD b3), .val (.int most), .val (.int unt), .val (.int c), .val (.int (1 + (take b1 most).1)), .val (.int (1 + (take b2 most).1)), .un, .un, .un, .un, .un, .un]) ⟨_, by simp only [runD, runO, out0, slots0, List.replicate, List.append_nil, List.cons_append, List.nil_append, List.length_cons, List.length_nil, retS, retC, retO, retN, seqS, ifS, asg, asgO, exprS, appS, setS, augS, asgT, raiseS, nxS, op1, op2, op2C, tst, andF, orF, ifF, andB, orB, notB, chF, cst, vr, frz, frC, lstC, tupF, consF, nilF, bltF, bltC, one_d, bind_ok, bind_er, bind_bad, then_ok, then_er, then_bad, opt_some, opt_none, Vl.get, Slot.get, Slot.put, Slot.cont, Slot.lst, Slot.mut, Slot.shal, stables, sh, gets, argD, argB, callF, callO, callC, callB, callW, pick, Pk.of, and_self, boxC, partF, slF, srcF, srcR1, srcR2, srcZ, forS, popF, noEr_ok, noEr_er, yes, List.getElem?_cons_zero, List.getElem?_cons_succ, List.set_cons_zero, List.set_cons_succ, Option.bind_some, Option.bind_none, Option.map_some, Option.map_none, if_true, if_false, Bool.false_eq_true, if_pos, List.map_cons, List.map_nil, add_int, sub_int, negD, notD, boolOf, isD, isntD, isNone, Tg.put, Tg.puts, sh0, sh1, sh2, sh3, sh4, sh5, sh6, sh7, sh8, sh9, sh10, sh11, sh12, sh13, sh14, sh15, sh16, step_nx, step_ct, Nat.add_one_sub_one, Nat.sub_self, Nat.zero_add, Nat.reduceAdd, Nat.reduceSub, T2], rfl⟩ ?_
    rintro ρ rfl
    refine RtV.seq (P := fun ρ => ρ = [.arg (bD b4), .val (.int most), .val (.int unt), .val (.int c), .val (.int (1 + (take b1 most).1)), .val (.int (1 + (take b2 most).1)), .val (.int land), .un, .un, .un, .un, .un])
      ⟨_, by simp only [runD, runO, out0, slots0, List.replicate, List.append_nil, List.cons_append, List.nil_append, List.length_cons, List.length_nil, retS, retC, retO, retN, seqS, ifS, asg, asgO, exprS, appS, setS, augS, asgT, raiseS, nxS, op1, op2, op2C, tst, andF, orF, ifF, andB, orB, notB, chF, cst, vr, frz, frC, lstC, tupF, consF, nilF, bltF, bltC, one_d, bind_ok, bind_er, bind_bad, then_ok, then_er, then_bad, opt_some, opt_none, Vl.get, Slot.get, Slot.put, Slot.cont, Slot.lst, Slot.mut, Slot.shal, stables, sh, gets, argD, argB, callF, callO, callC, callB, callW, pick, Pk.of, and_self, boxC, partF, slF, srcF, srcR1, srcR2, srcZ, forS, popF, noEr_ok, noEr_er, yes, List.getElem?_cons_zero, List.getElem?_cons_succ, List.set_cons_zero, List.set_cons_succ, Option.bind_some, Option.bind_none, Option.map_some, Option.map_none, if_true, if_false, Bool.false_eq_true, if_pos, List.map_cons, List.map_nil, add_int, sub_int, negD, notD, boolOf, isD, isntD, isNone, Tg.put, Tg.puts, sh0, sh1, sh2, sh3, sh4, sh5, sh6, sh7, sh8, sh9, sh10, sh11, sh12, sh13, sh14, sh15, sh16, step_nx, step_ct, Nat.add_one_sub_one, Nat.sub_self, Nat.zero_add, Nat.reduceAdd, Nat.reduceSub, T3, ixp5 (take_nn b3 (show (0 : Int) < 5 by decide)) (take_lt b3 (show (0 : Int) < 5 by decide)), el], rfl⟩ ?_
    rintro ρ rfl
    refine RtV.seq (P := fun ρ => ρ = [.arg (bD b5), .val (.int most), .val (.int unt), .val (.int c), .val (.int (1 + (take b1 most).1)), .val (.int (1 + (take b2 most).1)), .val (.int land), .val (.int calm), .un, .un, .un, .un])
      ⟨_, by simp only [runD, runO, out0, slots0, List.replicate, List.append_nil, List.cons_append, List.nil_append, List.length_cons, List.length_nil, retS, retC, retO, retN, seqS, ifS, asg, asgO, exprS, appS, setS, augS, asgT, raiseS, nxS, op1, op2, op2C, tst, andF, orF, ifF, andB, orB, notB, chF, cst, vr, frz, frC, lstC, tupF, consF, nilF, bltF, bltC, one_d, bind_ok, bind_er, bind_bad, then_ok, then_er, then_bad, opt_some, opt_none, Vl.get, Slot.get, Slot.put, Slot.cont, Slot.lst, Slot.mut, Slot.shal, stables, sh, gets, argD, argB, callF, callO, callC, callB, callW, pick, Pk.of, and_self, boxC, partF, slF, srcF, srcR1, srcR2, srcZ, forS, popF, noEr_ok, noEr_er, yes, List.getElem?_cons_zero, List.getElem?_cons_succ, List.set_cons_zero, List.set_cons_succ, Option.bind_some, Option.bind_none, Option.map_some, Option.map_none, if_true, if_false, Bool.false_eq_true, if_pos, List.map_cons, List.map_nil, add_int, sub_int, negD, notD, boolOf, isD, isntD, isNone, Tg.put, Tg.puts, sh0, sh1, sh2, sh3, sh4, sh5, sh6, sh7, sh8, sh9, sh10, sh11, sh12, sh13, sh14, sh15, sh16, step_nx, step_ct, Nat.add_one_sub_one, Nat.sub_self, Nat.zero_add, Nat.reduceAdd, Nat.reduceSub, T4, div_ok (divOk_of (show (0 : Int) < 3 by decide) (by decide)), ixp3 (take_nn b4 (show (0 : Int) < 3 by decide)) (take_lt b4 (show (0 : Int) < 3 by decide)), ecm], rfl⟩ ?_
    rintro ρ rfl
    refine RtV.seq (P := fun ρ => ρ = [.arg (bD b5), .val (.int most), .val (.int unt), .val (.int c), .val (.int (1 + (take b1 most).1)), .val (.int (1 + (take b2 most).1)), .val (.int land), .val (.int calm), .own (.list []), .un, .un, .un]) ⟨_, by simp only [runD, runO, out0, slots0, List.replicate, List.append_nil, List.cons_append, List.nil_append, List.length_cons, List.length_nil, retS, retC, retO, retN, seqS, ifS, asg, asgO, exprS, appS, setS, augS, asgT, raiseS, nxS, op1, op2, op2C, tst, andF, orF, ifF, andB, orB, notB, chF, cst, vr, frz, frC, lstC, tupF, consF, nilF, bltF, bltC, one_d, bind_ok, bind_er, bind_bad, then_ok, then_er, then_bad, opt_some, opt_none, Vl.get, Slot.get, Slot.put, Slot.cont, Slot.lst, Slot.mut, Slot.shal, stables, sh, gets, argD, argB, callF, callO, callC, callB, callW, pick, Pk.of, and_self, boxC, partF, slF, srcF, srcR1, srcR2, srcZ, forS, popF, noEr_ok, noEr_er, yes, List.getElem?_cons_zero, List.getElem?_cons_succ, List.set_cons_zero, List.set_cons_succ, Option.bind_some, Option.bind_none, Option.map_some, Option.map_none, if_true, if_false, Bool.false_eq_true, if_pos, List.map_cons, List.map_nil, add_int, sub_int, negD, notD, boolOf, isD, isntD, isNone, Tg.put, Tg.puts, sh0, sh1, sh2, sh3, sh4, sh5, sh6, sh7, sh8, sh9, sh10, sh11, sh12, sh13, sh14, sh15, sh16, step_nx, step_ct, Nat.add_one_sub_one, Nat.sub_self, Nat.zero_add, Nat.reduceAdd, Nat.reduceSub], rfl⟩ ?_
    rintro ρ rfl
    refine RtV.seq ⟨_, e, rfl⟩ ?_
    rintro ρ rfl
    exact ⟨_, by simp only [runD, runO, out0, slots0, List.replicate, List.append_nil, List.cons_append, List.nil_append, List.length_cons, List.length_nil, retS, retC, retO, retN, seqS, ifS, asg, asgO, exprS, appS, setS, augS, asgT, raiseS, nxS, op1, op2, op2C, tst, andF, orF, ifF, andB, orB, notB, chF, cst, vr, frz, frC, lstC, tupF, consF, nilF, bltF, bltC, one_d, bind_ok, bind_er, bind_bad, then_ok, then_er, then_bad, opt_some, opt_none, Vl.get, Slot.get, Slot.put, Slot.cont, Slot.lst, Slot.mut, Slot.shal, stables, sh, gets, argD, argB, callF, callO, callC, callB, callW, pick, Pk.of, and_self, boxC, partF, slF, srcF, srcR1, srcR2, srcZ, forS, popF, noEr_ok, noEr_er, yes, List.getElem?_cons_zero, List.getElem?_cons_succ, List.set_cons_zero, List.set_cons_succ, Option.bind_some, Option.bind_none, Option.map_some, Option.map_none, if_true, if_false, Bool.false_eq_true, if_pos, List.map_cons, List.map_nil, add_int, sub_int, negD, notD, boolOf, isD, isntD, isNone, Tg.put, Tg.puts, sh0, sh1, sh2, sh3, sh4, sh5, sh6, sh7, sh8, sh9, sh10, sh11, sh12, sh13, sh14, sh15, sh16, step_nx, step_ct, Nat.add_one_sub_one, Nat.sub_self, Nat.zero_add, Nat.reduceAdd, Nat.reduceSub, tl]; rfl, _, rfl⟩
  exact g.runO (m := [.p, .p]) (n := 12)
theorem ix_c0 (c : Int) (rs : List (List Int)) : ixD (chD c rs) (.int 0) = some (.int c) := rfl
theorem ix_c1 (c : Int) (rs : List (List Int)) : ixD (chD c rs) (.int 1) = some (rowsD rs) := rfl
/-! ### comprehensions, once for all -/
theorem C_run {α : Type} {t : Tg} {vs : List Nat} {src : En → O (List D)} {te : EF} {ρ ρ0 : En} (ρ1 : En) (f g : α → D) (xs : List α) (hs : src ρ = .ok (xs.map f) ρ0) (hw : wipeE ρ0 vs = ρ1)
    (h : ∀ x ∈ xs, ∃ ρ2, t.put (f x) ρ1 = some ρ2 ∧ ∃ ρ3, te ρ2 = .ok (.st (g x)) ρ3 ∧ wipeE ρ3 vs = ρ1) (hl : xs.length ≤ 100000) : compC t vs src yes te ρ = .ok (.list (xs.map g)) ρ1 := by
  have key : ∀ xs : List α, (∀ x ∈ xs, ∃ ρ2, t.put (f x) ρ1 = some ρ2 ∧ ∃ ρ3, te ρ2 = .ok (.st (g x)) ρ3 ∧ wipeE ρ3 vs = ρ1) → compLoop t vs yes te (xs.map f) ρ1 = .ok (xs.map g) ρ1 := by
    intro xs
    induction xs with
    | nil => exact fun _ => rfl
    | cons x xs ih =>
      intro h
      obtain ⟨ρ2, e1, ρ3, e3, e4⟩ := h x (List.mem_cons_self ..)
      have ih := ih fun e m => h e (List.mem_cons_of_mem _ m)
      rw [List.map_cons]
      unfold compLoop
      simp only [e1, yes, noEr_ok, bind_ok, if_true, e3, e4, ih, List.map_cons]
  unfold compC
  rw [hs, bind_ok, hw, key xs h, noEr_ok, bind_ok, if_pos (short_map hl)]
/-- .. with a test -/
theorem C_runF {α : Type} {t : Tg} {vs : List Nat} {src : En → O (List D)} {tt : BF} {te : EF} {ρ ρ0 : En} (ρ1 : En) (f g : α → D) (p : α → Bool) (xs : List α) (hs : src ρ = .ok (xs.map f) ρ0) (hw : wipeE ρ0 vs = ρ1)
    (h : ∀ x ∈ xs, ∃ ρ2, t.put (f x) ρ1 = some ρ2 ∧ ∃ ρ3, tt ρ2 = .ok (p x) ρ3 ∧ if p x = true then ∃ ρ4, te ρ3 = .ok (.st (g x)) ρ4 ∧ wipeE ρ4 vs = ρ1 else wipeE ρ3 vs = ρ1) (hl : xs.length ≤ 100000) : compC t vs src tt te ρ = .ok (.list ((xs.filter p).map g)) ρ1 := by
  have key : ∀ xs : List α, (∀ x ∈ xs, ∃ ρ2, t.put (f x) ρ1 = some ρ2 ∧ ∃ ρ3, tt ρ2 = .ok (p x) ρ3 ∧ if p x = true then ∃ ρ4, te ρ3 = .ok (.st (g x)) ρ4 ∧ wipeE ρ4 vs = ρ1 else wipeE ρ3 vs = ρ1) → compLoop t vs tt te (xs.map f) ρ1 = .ok ((xs.filter p).map g) ρ1 := by
    intro xs
    induction xs with
    | nil => exact fun _ => rfl
    | cons x xs ih =>
      intro h
      obtain ⟨ρ2, e1, ρ3, e3, e4⟩ := h x (List.mem_cons_self ..)
      have ih := ih fun e m => h e (List.mem_cons_of_mem _ m)
      rw [List.map_cons]
      unfold compLoop
      cases q : p x with
      | true =>
        rw [q, if_pos rfl] at e4
        obtain ⟨ρ4, e5, e6⟩ := e4
        simp only [e1, noEr_ok, bind_ok, e3, q, if_true, e5, e6, ih, List.filter_cons_of_pos q, List.map_cons]
      | false =>
        rw [q, if_neg (by decide)] at e4
        have nq : ¬ p x = true := by rw [q]; decide
        simp only [e1, noEr_ok, bind_ok, e3, q, Bool.false_eq_true, if_false, e4, ih, List.filter_cons_of_neg nq]
  have sl : short ((xs.filter p).map g) = true := decide_eq_true (by rw [List.length_map]; exact Nat.le_trans (List.length_filter_le _ _) hl)
  unfold compC
  rw [hs, bind_ok, hw, key xs h, noEr_ok, bind_ok, if_pos sl]
theorem all_B {α : Type} (g : α → Bool) (xs : List α) : allD (.list (xs.map fun x => .bool (g x))) = some (.bool (xs.all g)) := by
  have := all_bools g xs
  rwa [List.map_map] at this
theorem srcF_list {f : EF} {ρ ρ1 : En} {ds : List D} (h : f ρ = .ok (.st (.list ds)) ρ1) : srcF f ρ = .ok ds ρ1 := by
  unfold srcF; rw [h]; rfl
theorem srcF_tup {f : EF} {ρ ρ1 : En} {ds : List D} (h : f ρ = .ok (.st (.tuple ds)) ρ1) : srcF f ρ = .ok ds ρ1 := by
  unfold srcF; rw [h]; rfl
theorem rng_nat (n : Nat) : rng 0 (n : Int) = (List.range n).map fun (k : Nat) => PyData.int (k : Int) := by
  unfold rng
  rw [Int.sub_zero, Int.toNat_natCast]
  exact List.map_congr_left fun k _ => by rw [Int.zero_add]
theorem srcR1_nat {f : EF} {ρ ρ1 : En} {n : Nat} (h : f ρ = .ok (.st (.int (n : Int))) ρ1) (hn : n ≤ 1000000) : srcR1 f ρ = .ok ((List.range n).map fun (k : Nat) => PyData.int (k : Int)) ρ1 := by
  have r : rngOk (n : Int) = true := rng_fit (by omega) (by omega)
  unfold srcR1
  rw [h, bind_ok]
  simp only [Vl.get, r, if_true, rng_nat]
theorem int_eta {n : Int} {k : Nat} (h : n = (k : Int)) : PyData.int n = .int (k : Int) := by rw [h]
/-- a loop as a fold of what is known of the slots -/
theorem for_inv {α : Type} {t : Tg} {body : SF} (f : α → D) (I : Nat → En → Prop) (xs : List α) (ρ : En) (h0 : I 0 ρ)
    (hs : ∀ k x ρ, xs[k]? = some x → I k ρ → ∃ ρ1, Tg.put t (f x) ρ = some ρ1 ∧ SO.step (body ρ1) (I (k + 1))) : ∃ ρ', forLoop t body (xs.map f) ρ = .nx ρ' ∧ I xs.length ρ' := by
  have := for_run (t := t) (body := body) (xs.map f) ρ I h0 fun k d ρ e i => by
    rw [List.getElem?_map] at e
    cases q : xs[k]? with
    | none => rw [q] at e; cases e
    | some x =>
      rw [q] at e
      cases e
      exact hs k x ρ q i
  rwa [List.length_map] at this
/-! words, tests -/
theorem and_b {fa fb : EF} {ρ ρ1 ρ2 : En} {p q : Bool} (h1 : fa ρ = .ok (.st (.bool p)) ρ1) (h2 : p = true → fb ρ1 = .ok (.st (.bool q)) ρ2) (h3 : p = false → ρ1 = ρ2) : andF fa fb ρ = .ok (.st (.bool (p && q))) ρ2 := by
  cases p with
  | true => simp only [runD, runO, out0, slots0, List.replicate, List.append_nil, List.cons_append, List.nil_append, List.length_cons, List.length_nil, retS, retC, retO, retN, seqS, ifS, asg, asgO, exprS, appS, setS, augS, asgT, raiseS, nxS, op1, op2, op2C, tst, andF, orF, ifF, andB, orB, notB, chF, cst, vr, frz, frC, lstC, tupF, consF, nilF, bltF, bltC, one_d, bind_ok, bind_er, bind_bad, then_ok, then_er, then_bad, opt_some, opt_none, Vl.get, Slot.get, Slot.put, Slot.cont, Slot.lst, Slot.mut, Slot.shal, stables, sh, gets, argD, argB, callF, callO, callC, callB, callW, pick, Pk.of, and_self, boxC, partF, slF, srcF, srcR1, srcR2, srcZ, forS, popF, noEr_ok, noEr_er, yes, List.getElem?_cons_zero, List.getElem?_cons_succ, List.set_cons_zero, List.set_cons_succ, Option.bind_some, Option.bind_none, Option.map_some, Option.map_none, if_true, if_false, Bool.false_eq_true, if_pos, List.map_cons, List.map_nil, add_int, sub_int, negD, notD, boolOf, isD, isntD, isNone, Tg.put, Tg.puts, sh0, sh1, sh2, sh3, sh4, sh5, sh6, sh7, sh8, sh9, sh10, sh11, sh12, sh13, sh14, sh15, sh16, step_nx, step_ct, Nat.add_one_sub_one, Nat.sub_self, Nat.zero_add, Nat.reduceAdd, Nat.reduceSub, h1, h2 rfl, Bool.true_and]
  | false => simp only [runD, runO, out0, slots0, List.replicate, List.append_nil, List.cons_append, List.nil_append, List.length_cons, List.length_nil, retS, retC, retO, retN, seqS, ifS, asg, asgO, exprS, appS, setS, augS, asgT, raiseS, nxS, op1, op2, op2C, tst, andF, orF, ifF, andB, orB, notB, chF, cst, vr, frz, frC, lstC, tupF, consF, nilF, bltF, bltC, one_d, bind_ok, bind_er, bind_bad, then_ok, then_er, then_bad, opt_some, opt_none, Vl.get, Slot.get, Slot.put, Slot.cont, Slot.lst, Slot.mut, Slot.shal, stables, sh, gets, argD, argB, callF, callO, callC, callB, callW, pick, Pk.of, and_self, boxC, partF, slF, srcF, srcR1, srcR2, srcZ, forS, popF, noEr_ok, noEr_er, yes, List.getElem?_cons_zero, List.getElem?_cons_succ, List.set_cons_zero, List.set_cons_succ, Option.bind_some, Option.bind_none, Option.map_some, Option.map_none, if_true, if_false, Bool.false_eq_true, if_pos, List.map_cons, List.map_nil, add_int, sub_int, negD, notD, boolOf, isD, isntD, isNone, Tg.put, Tg.puts, sh0, sh1, sh2, sh3, sh4, sh5, sh6, sh7, sh8, sh9, sh10, sh11, sh12, sh13, sh14, sh15, sh16, step_nx, step_ct, Nat.add_one_sub_one, Nat.sub_self, Nat.zero_add, Nat.reduceAdd, Nat.reduceSub, h1, h3 rfl, Bool.false_and]
theorem or_b {fa fb : EF} {ρ ρ1 ρ2 : En} {p q : Bool} (h1 : fa ρ = .ok (.st (.bool p)) ρ1) (h2 : p = false → fb ρ1 = .ok (.st (.bool q)) ρ2) (h3 : p = true → ρ1 = ρ2) : orF fa fb ρ = .ok (.st (.bool (p || q))) ρ2 := by
  cases p with
  | true => simp only [runD, runO, out0, slots0, List.replicate, List.append_nil, List.cons_append, List.nil_append, List.length_cons, List.length_nil, retS, retC, retO, retN, seqS, ifS, asg, asgO, exprS, appS, setS, augS, asgT, raiseS, nxS, op1, op2, op2C, tst, andF, orF, ifF, andB, orB, notB, chF, cst, vr, frz, frC, lstC, tupF, consF, nilF, bltF, bltC, one_d, bind_ok, bind_er, bind_bad, then_ok, then_er, then_bad, opt_some, opt_none, Vl.get, Slot.get, Slot.put, Slot.cont, Slot.lst, Slot.mut, Slot.shal, stables, sh, gets, argD, argB, callF, callO, callC, callB, callW, pick, Pk.of, and_self, boxC, partF, slF, srcF, srcR1, srcR2, srcZ, forS, popF, noEr_ok, noEr_er, yes, List.getElem?_cons_zero, List.getElem?_cons_succ, List.set_cons_zero, List.set_cons_succ, Option.bind_some, Option.bind_none, Option.map_some, Option.map_none, if_true, if_false, Bool.false_eq_true, if_pos, List.map_cons, List.map_nil, add_int, sub_int, negD, notD, boolOf, isD, isntD, isNone, Tg.put, Tg.puts, sh0, sh1, sh2, sh3, sh4, sh5, sh6, sh7, sh8, sh9, sh10, sh11, sh12, sh13, sh14, sh15, sh16, step_nx, step_ct, Nat.add_one_sub_one, Nat.sub_self, Nat.zero_add, Nat.reduceAdd, Nat.reduceSub, h1, h3 rfl, Bool.true_or]
  | false => simp only [runD, runO, out0, slots0, List.replicate, List.append_nil, List.cons_append, List.nil_append, List.length_cons, List.length_nil, retS, retC, retO, retN, seqS, ifS, asg, asgO, exprS, appS, setS, augS, asgT, raiseS, nxS, op1, op2, op2C, tst, andF, orF, ifF, andB, orB, notB, chF, cst, vr, frz, frC, lstC, tupF, consF, nilF, bltF, bltC, one_d, bind_ok, bind_er, bind_bad, then_ok, then_er, then_bad, opt_some, opt_none, Vl.get, Slot.get, Slot.put, Slot.cont, Slot.lst, Slot.mut, Slot.shal, stables, sh, gets, argD, argB, callF, callO, callC, callB, callW, pick, Pk.of, and_self, boxC, partF, slF, srcF, srcR1, srcR2, srcZ, forS, popF, noEr_ok, noEr_er, yes, List.getElem?_cons_zero, List.getElem?_cons_succ, List.set_cons_zero, List.set_cons_succ, Option.bind_some, Option.bind_none, Option.map_some, Option.map_none, if_true, if_false, Bool.false_eq_true, if_pos, List.map_cons, List.map_nil, add_int, sub_int, negD, notD, boolOf, isD, isntD, isNone, Tg.put, Tg.puts, sh0, sh1, sh2, sh3, sh4, sh5, sh6, sh7, sh8, sh9, sh10, sh11, sh12, sh13, sh14, sh15, sh16, step_nx, step_ct, Nat.add_one_sub_one, Nat.sub_self, Nat.zero_add, Nat.reduceAdd, Nat.reduceSub, h1, h2 rfl, Bool.false_or]
theorem and_t {f g : BF} {ρ ρ1 ρ2 : En} {p q : Bool} (h1 : f ρ = .ok p ρ1) (h2 : p = true → g ρ1 = .ok q ρ2) (h3 : p = false → ρ1 = ρ2) : andB f g ρ = .ok (p && q) ρ2 := by
  cases p with
  | true => simp only [runD, runO, out0, slots0, List.replicate, List.append_nil, List.cons_append, List.nil_append, List.length_cons, List.length_nil, retS, retC, retO, retN, seqS, ifS, asg, asgO, exprS, appS, setS, augS, asgT, raiseS, nxS, op1, op2, op2C, tst, andF, orF, ifF, andB, orB, notB, chF, cst, vr, frz, frC, lstC, tupF, consF, nilF, bltF, bltC, one_d, bind_ok, bind_er, bind_bad, then_ok, then_er, then_bad, opt_some, opt_none, Vl.get, Slot.get, Slot.put, Slot.cont, Slot.lst, Slot.mut, Slot.shal, stables, sh, gets, argD, argB, callF, callO, callC, callB, callW, pick, Pk.of, and_self, boxC, partF, slF, srcF, srcR1, srcR2, srcZ, forS, popF, noEr_ok, noEr_er, yes, List.getElem?_cons_zero, List.getElem?_cons_succ, List.set_cons_zero, List.set_cons_succ, Option.bind_some, Option.bind_none, Option.map_some, Option.map_none, if_true, if_false, Bool.false_eq_true, if_pos, List.map_cons, List.map_nil, add_int, sub_int, negD, notD, boolOf, isD, isntD, isNone, Tg.put, Tg.puts, sh0, sh1, sh2, sh3, sh4, sh5, sh6, sh7, sh8, sh9, sh10, sh11, sh12, sh13, sh14, sh15, sh16, step_nx, step_ct, Nat.add_one_sub_one, Nat.sub_self, Nat.zero_add, Nat.reduceAdd, Nat.reduceSub, h1, h2 rfl, Bool.true_and]
  | false => simp only [runD, runO, out0, slots0, List.replicate, List.append_nil, List.cons_append, List.nil_append, List.length_cons, List.length_nil, retS, retC, retO, retN, seqS, ifS, asg, asgO, exprS, appS, setS, augS, asgT, raiseS, nxS, op1, op2, op2C, tst, andF, orF, ifF, andB, orB, notB, chF, cst, vr, frz, frC, lstC, tupF, consF, nilF, bltF, bltC, one_d, bind_ok, bind_er, bind_bad, then_ok, then_er, then_bad, opt_some, opt_none, Vl.get, Slot.get, Slot.put, Slot.cont, Slot.lst, Slot.mut, Slot.shal, stables, sh, gets, argD, argB, callF, callO, callC, callB, callW, pick, Pk.of, and_self, boxC, partF, slF, srcF, srcR1, srcR2, srcZ, forS, popF, noEr_ok, noEr_er, yes, List.getElem?_cons_zero, List.getElem?_cons_succ, List.set_cons_zero, List.set_cons_succ, Option.bind_some, Option.bind_none, Option.map_some, Option.map_none, if_true, if_false, Bool.false_eq_true, if_pos, List.map_cons, List.map_nil, add_int, sub_int, negD, notD, boolOf, isD, isntD, isNone, Tg.put, Tg.puts, sh0, sh1, sh2, sh3, sh4, sh5, sh6, sh7, sh8, sh9, sh10, sh11, sh12, sh13, sh14, sh15, sh16, step_nx, step_ct, Nat.add_one_sub_one, Nat.sub_self, Nat.zero_add, Nat.reduceAdd, Nat.reduceSub, h1, h3 rfl, Bool.false_and]
theorem or_t {f g : BF} {ρ ρ1 ρ2 : En} {p q : Bool} (h1 : f ρ = .ok p ρ1) (h2 : p = false → g ρ1 = .ok q ρ2) (h3 : p = true → ρ1 = ρ2) : orB f g ρ = .ok (p || q) ρ2 := by
  cases p with
  | true => simp only [runD, runO, out0, slots0, List.replicate, List.append_nil, List.cons_append, List.nil_append, List.length_cons, List.length_nil, retS, retC, retO, retN, seqS, ifS, asg, asgO, exprS, appS, setS, augS, asgT, raiseS, nxS, op1, op2, op2C, tst, andF, orF, ifF, andB, orB, notB, chF, cst, vr, frz, frC, lstC, tupF, consF, nilF, bltF, bltC, one_d, bind_ok, bind_er, bind_bad, then_ok, then_er, then_bad, opt_some, opt_none, Vl.get, Slot.get, Slot.put, Slot.cont, Slot.lst, Slot.mut, Slot.shal, stables, sh, gets, argD, argB, callF, callO, callC, callB, callW, pick, Pk.of, and_self, boxC, partF, slF, srcF, srcR1, srcR2, srcZ, forS, popF, noEr_ok, noEr_er, yes, List.getElem?_cons_zero, List.getElem?_cons_succ, List.set_cons_zero, List.set_cons_succ, Option.bind_some, Option.bind_none, Option.map_some, Option.map_none, if_true, if_false, Bool.false_eq_true, if_pos, List.map_cons, List.map_nil, add_int, sub_int, negD, notD, boolOf, isD, isntD, isNone, Tg.put, Tg.puts, sh0, sh1, sh2, sh3, sh4, sh5, sh6, sh7, sh8, sh9, sh10, sh11, sh12, sh13, sh14, sh15, sh16, step_nx, step_ct, Nat.add_one_sub_one, Nat.sub_self, Nat.zero_add, Nat.reduceAdd, Nat.reduceSub, h1, h3 rfl, Bool.true_or]
  | false => simp only [runD, runO, out0, slots0, List.replicate, List.append_nil, List.cons_append, List.nil_append, List.length_cons, List.length_nil, retS, retC, retO, retN, seqS, ifS, asg, asgO, exprS, appS, setS, augS, asgT, raiseS, nxS, op1, op2, op2C, tst, andF, orF, ifF, andB, orB, notB, chF, cst, vr, frz, frC, lstC, tupF, consF, nilF, bltF, bltC, one_d, bind_ok, bind_er, bind_bad, then_ok, then_er, then_bad, opt_some, opt_none, Vl.get, Slot.get, Slot.put, Slot.cont, Slot.lst, Slot.mut, Slot.shal, stables, sh, gets, argD, argB, callF, callO, callC, callB, callW, pick, Pk.of, and_self, boxC, partF, slF, srcF, srcR1, srcR2, srcZ, forS, popF, noEr_ok, noEr_er, yes, List.getElem?_cons_zero, List.getElem?_cons_succ, List.set_cons_zero, List.set_cons_succ, Option.bind_some, Option.bind_none, Option.map_some, Option.map_none, if_true, if_false, Bool.false_eq_true, if_pos, List.map_cons, List.map_nil, add_int, sub_int, negD, notD, boolOf, isD, isntD, isNone, Tg.put, Tg.puts, sh0, sh1, sh2, sh3, sh4, sh5, sh6, sh7, sh8, sh9, sh10, sh11, sh12, sh13, sh14, sh15, sh16, step_nx, step_ct, Nat.add_one_sub_one, Nat.sub_self, Nat.zero_add, Nat.reduceAdd, Nat.reduceSub, h1, h2 rfl, Bool.false_or]
theorem if_t {c : BF} {f g : SF} {ρ ρ1 : En} {b : Bool} (h : c ρ = .ok b ρ1) : ifS c f g ρ = if b = true then f ρ1 else g ρ1 := by
  simp only [ifS, h, then_ok]
/-! ### is_chart, need_chart -/
def isSq (c v : Int) : Bool := decide (-2 ≤ v) && decide (v < c)
def isChart (c : Int) (rs : List (List Int)) : Bool := isClk c && (decide (1 ≤ rs.length) && decide (rs.length ≤ 9)) && (decide (1 ≤ (rs.getD 0 []).length) && decide ((rs.getD 0 []).length ≤ 9)) && rs.all fun r => r.length == (rs.getD 0 []).length && r.all (isSq c)
theorem is_square_eq (c v : Int) : F_is_square [.int c, .int v] = .ok (.bool (isSq c v)) false .none := by
  have e := ch_le_lt (a := -2) (b := v) (c := c) (ρ := [.val (.int c), .val (.int v)]) (fa := cst (.int (-2))) (fb := vr 1) (fc := vr 0) rfl rfl rfl
  show runD [.p, .p] 2 f_is_square [.int c, .int v] = _
  unfold runD f_is_square retS
  rw [show (slots0 [Md.p, Md.p] [.int c, .int v] ++ List.replicate (2 - [Md.p, Md.p].length) .un : En) = [.val (.int c), .val (.int v)] from rfl, e]
  rfl
theorem is_chart_eq (c : Int) (rs : List (List Int)) : F_is_chart [chD c rs] = .ok (.bool (isChart c rs)) false .none := by
  obtain ⟨L, eL⟩ : ∃ L : Int, (rs.length : Int) = L := ⟨_, rfl⟩
  have ll : lenD (rowsD rs) = some (.int L) := by rw [len_rows, eL]
  cases h1 : isClk c with
  | false => simp only [F_is_chart, f_is_chart, chD, runD, runO, out0, slots0, List.replicate, List.append_nil, List.cons_append, List.nil_append, List.length_cons, List.length_nil, retS, retC, retO, retN, seqS, ifS, asg, asgO, exprS, appS, setS, augS, asgT, raiseS, nxS, op1, op2, op2C, tst, andF, orF, ifF, andB, orB, notB, chF, cst, vr, frz, frC, lstC, tupF, consF, nilF, bltF, bltC, one_d, bind_ok, bind_er, bind_bad, then_ok, then_er, then_bad, opt_some, opt_none, Vl.get, Slot.get, Slot.put, Slot.cont, Slot.lst, Slot.mut, Slot.shal, stables, sh, gets, argD, argB, callF, callO, callC, callB, callW, pick, Pk.of, and_self, boxC, partF, slF, srcF, srcR1, srcR2, srcZ, forS, popF, noEr_ok, noEr_er, yes, List.getElem?_cons_zero, List.getElem?_cons_succ, List.set_cons_zero, List.set_cons_succ, Option.bind_some, Option.bind_none, Option.map_some, Option.map_none, if_true, if_false, Bool.false_eq_true, if_pos, List.map_cons, List.map_nil, add_int, sub_int, negD, notD, boolOf, isD, isntD, isNone, Tg.put, Tg.puts, sh0, sh1, sh2, sh3, sh4, sh5, sh6, sh7, sh8, sh9, sh10, sh11, sh12, sh13, sh14, sh15, sh16, step_nx, step_ct, Nat.add_one_sub_one, Nat.sub_self, Nat.zero_add, Nat.reduceAdd, Nat.reduceSub, is_clock_eq, h1, Bool.not_false, isChart, Bool.false_and]
  | true =>
  by_cases h2 : 1 ≤ L
  case neg => simp only [F_is_chart, f_is_chart, chD, runD, runO, out0, slots0, List.replicate, List.append_nil, List.cons_append, List.nil_append, List.length_cons, List.length_nil, retS, retC, retO, retN, seqS, ifS, asg, asgO, exprS, appS, setS, augS, asgT, raiseS, nxS, op1, op2, op2C, tst, andF, orF, ifF, andB, orB, notB, chF, cst, vr, frz, frC, lstC, tupF, consF, nilF, bltF, bltC, one_d, bind_ok, bind_er, bind_bad, then_ok, then_er, then_bad, opt_some, opt_none, Vl.get, Slot.get, Slot.put, Slot.cont, Slot.lst, Slot.mut, Slot.shal, stables, sh, gets, argD, argB, callF, callO, callC, callB, callW, pick, Pk.of, and_self, boxC, partF, slF, srcF, srcR1, srcR2, srcZ, forS, popF, noEr_ok, noEr_er, yes, List.getElem?_cons_zero, List.getElem?_cons_succ, List.set_cons_zero, List.set_cons_succ, Option.bind_some, Option.bind_none, Option.map_some, Option.map_none, if_true, if_false, Bool.false_eq_true, if_pos, List.map_cons, List.map_nil, add_int, sub_int, negD, notD, boolOf, isD, isntD, isNone, Tg.put, Tg.puts, sh0, sh1, sh2, sh3, sh4, sh5, sh6, sh7, sh8, sh9, sh10, sh11, sh12, sh13, sh14, sh15, sh16, step_nx, step_ct, Nat.add_one_sub_one, Nat.sub_self, Nat.zero_add, Nat.reduceAdd, Nat.reduceSub, is_clock_eq, h1, Bool.not_false, Bool.not_true, ll, leI, decide_eq_false h2, isChart, Bool.true_and, decide_eq_false (show ¬ 1 ≤ rs.length by omega), Bool.false_and]
  by_cases h3 : L ≤ 9
  case neg => simp only [F_is_chart, f_is_chart, chD, runD, runO, out0, slots0, List.replicate, List.append_nil, List.cons_append, List.nil_append, List.length_cons, List.length_nil, retS, retC, retO, retN, seqS, ifS, asg, asgO, exprS, appS, setS, augS, asgT, raiseS, nxS, op1, op2, op2C, tst, andF, orF, ifF, andB, orB, notB, chF, cst, vr, frz, frC, lstC, tupF, consF, nilF, bltF, bltC, one_d, bind_ok, bind_er, bind_bad, then_ok, then_er, then_bad, opt_some, opt_none, Vl.get, Slot.get, Slot.put, Slot.cont, Slot.lst, Slot.mut, Slot.shal, stables, sh, gets, argD, argB, callF, callO, callC, callB, callW, pick, Pk.of, and_self, boxC, partF, slF, srcF, srcR1, srcR2, srcZ, forS, popF, noEr_ok, noEr_er, yes, List.getElem?_cons_zero, List.getElem?_cons_succ, List.set_cons_zero, List.set_cons_succ, Option.bind_some, Option.bind_none, Option.map_some, Option.map_none, if_true, if_false, Bool.false_eq_true, if_pos, List.map_cons, List.map_nil, add_int, sub_int, negD, notD, boolOf, isD, isntD, isNone, Tg.put, Tg.puts, sh0, sh1, sh2, sh3, sh4, sh5, sh6, sh7, sh8, sh9, sh10, sh11, sh12, sh13, sh14, sh15, sh16, step_nx, step_ct, Nat.add_one_sub_one, Nat.sub_self, Nat.zero_add, Nat.reduceAdd, Nat.reduceSub, is_clock_eq, h1, Bool.not_false, Bool.not_true, ll, leI, decide_eq_true h2, decide_eq_false h3, isChart, Bool.true_and, decide_eq_false (show ¬ rs.length ≤ 9 by omega), Bool.false_and, Bool.and_false]
  have i0 : ixD (rowsD rs) (.int 0) = some (rowD (rs.getD 0 [])) := rows_at (k := 0) (by omega)
  obtain ⟨V, eV⟩ : ∃ V : Int, ((rs.getD 0 []).length : Int) = V := ⟨_, rfl⟩
  have lv : lenD (rowD (rs.getD 0 [])) = some (.int V) := by rw [len_row, eV]
  have g2 : decide (1 ≤ rs.length) = true := decide_eq_true (by omega)
  have g3 : decide (rs.length ≤ 9) = true := decide_eq_true (by omega)
  by_cases h4 : 1 ≤ V
  case neg => simp only [F_is_chart, f_is_chart, chD, runD, runO, out0, slots0, List.replicate, List.append_nil, List.cons_append, List.nil_append, List.length_cons, List.length_nil, retS, retC, retO, retN, seqS, ifS, asg, asgO, exprS, appS, setS, augS, asgT, raiseS, nxS, op1, op2, op2C, tst, andF, orF, ifF, andB, orB, notB, chF, cst, vr, frz, frC, lstC, tupF, consF, nilF, bltF, bltC, one_d, bind_ok, bind_er, bind_bad, then_ok, then_er, then_bad, opt_some, opt_none, Vl.get, Slot.get, Slot.put, Slot.cont, Slot.lst, Slot.mut, Slot.shal, stables, sh, gets, argD, argB, callF, callO, callC, callB, callW, pick, Pk.of, and_self, boxC, partF, slF, srcF, srcR1, srcR2, srcZ, forS, popF, noEr_ok, noEr_er, yes, List.getElem?_cons_zero, List.getElem?_cons_succ, List.set_cons_zero, List.set_cons_succ, Option.bind_some, Option.bind_none, Option.map_some, Option.map_none, if_true, if_false, Bool.false_eq_true, if_pos, List.map_cons, List.map_nil, add_int, sub_int, negD, notD, boolOf, isD, isntD, isNone, Tg.put, Tg.puts, sh0, sh1, sh2, sh3, sh4, sh5, sh6, sh7, sh8, sh9, sh10, sh11, sh12, sh13, sh14, sh15, sh16, step_nx, step_ct, Nat.add_one_sub_one, Nat.sub_self, Nat.zero_add, Nat.reduceAdd, Nat.reduceSub, is_clock_eq, h1, Bool.not_false, Bool.not_true, ll, leI, decide_eq_true h2, decide_eq_true h3, i0, lv, decide_eq_false h4, isChart, Bool.true_and, g2, g3, decide_eq_false (show ¬ 1 ≤ (rs.getD 0 []).length by omega), Bool.false_and]
  by_cases h5 : V ≤ 9
  case neg => simp only [F_is_chart, f_is_chart, chD, runD, runO, out0, slots0, List.replicate, List.append_nil, List.cons_append, List.nil_append, List.length_cons, List.length_nil, retS, retC, retO, retN, seqS, ifS, asg, asgO, exprS, appS, setS, augS, asgT, raiseS, nxS, op1, op2, op2C, tst, andF, orF, ifF, andB, orB, notB, chF, cst, vr, frz, frC, lstC, tupF, consF, nilF, bltF, bltC, one_d, bind_ok, bind_er, bind_bad, then_ok, then_er, then_bad, opt_some, opt_none, Vl.get, Slot.get, Slot.put, Slot.cont, Slot.lst, Slot.mut, Slot.shal, stables, sh, gets, argD, argB, callF, callO, callC, callB, callW, pick, Pk.of, and_self, boxC, partF, slF, srcF, srcR1, srcR2, srcZ, forS, popF, noEr_ok, noEr_er, yes, List.getElem?_cons_zero, List.getElem?_cons_succ, List.set_cons_zero, List.set_cons_succ, Option.bind_some, Option.bind_none, Option.map_some, Option.map_none, if_true, if_false, Bool.false_eq_true, if_pos, List.map_cons, List.map_nil, add_int, sub_int, negD, notD, boolOf, isD, isntD, isNone, Tg.put, Tg.puts, sh0, sh1, sh2, sh3, sh4, sh5, sh6, sh7, sh8, sh9, sh10, sh11, sh12, sh13, sh14, sh15, sh16, step_nx, step_ct, Nat.add_one_sub_one, Nat.sub_self, Nat.zero_add, Nat.reduceAdd, Nat.reduceSub, is_clock_eq, h1, Bool.not_false, Bool.not_true, ll, leI, decide_eq_true h2, decide_eq_true h3, i0, lv, decide_eq_true h4, decide_eq_false h5, isChart, Bool.true_and, g2, g3, decide_eq_false (show ¬ (rs.getD 0 []).length ≤ 9 by omega), Bool.false_and, Bool.and_false]
  have g4 : decide (1 ≤ (rs.getD 0 []).length) = true := decide_eq_true (by omega)
  have g5 : decide ((rs.getD 0 []).length ≤ 9) = true := decide_eq_true (by omega)
  have cm : C_is_chart_2 [.val (.tuple [.int c, rowsD rs]), .val (.int c), .val (rowsD rs), .val (.int V), .un, .un] = .ok (.list (rs.map fun r => .bool (r.length == (rs.getD 0 []).length && r.all (isSq c)))) [.val (.tuple [.int c, rowsD rs]), .val (.int c), .val (rowsD rs), .val (.int V), .un, .un] := by
    refine C_run _ rowD _ rs (srcF_tup rfl) rfl (fun r _ => ⟨_, rfl, ?_⟩) (by omega)
    obtain ⟨R, eR⟩ : ∃ R : Int, (r.length : Int) = R := ⟨_, rfl⟩
    have lr : lenD (rowD r) = some (.int R) := by rw [len_row, eR]
    by_cases q : r.length = (rs.getD 0 []).length
    · have e1 : (R == V) = true := by rw [beq_iff_eq]; omega
      have e2 : (r.length == (rs.getD 0 []).length) = true := by rw [beq_iff_eq]; exact q
      have ra : C_is_chart_1 [.val (.tuple [.int c, rowsD rs]), .val (.int c), .val (rowsD rs), .val (.int V), .val (rowD r), .un] = .ok (.list (r.map fun v => .bool (isSq c v))) [.val (.tuple [.int c, rowsD rs]), .val (.int c), .val (rowsD rs), .val (.int V), .val (rowD r), .un] :=
        C_run _ PyData.int _ r (srcF_tup rfl) rfl (fun v _ => ⟨_, rfl, _, by simp only [E_is_chart_1, runD, runO, out0, slots0, List.replicate, List.append_nil, List.cons_append, List.nil_append, List.length_cons, List.length_nil, retS, retC, retO, retN, seqS, ifS, asg, asgO, exprS, appS, setS, augS, asgT, raiseS, nxS, op1, op2, op2C, tst, andF, orF, ifF, andB, orB, notB, chF, cst, vr, frz, frC, lstC, tupF, consF, nilF, bltF, bltC, one_d, bind_ok, bind_er, bind_bad, then_ok, then_er, then_bad, opt_some, opt_none, Vl.get, Slot.get, Slot.put, Slot.cont, Slot.lst, Slot.mut, Slot.shal, stables, sh, gets, argD, argB, callF, callO, callC, callB, callW, pick, Pk.of, and_self, boxC, partF, slF, srcF, srcR1, srcR2, srcZ, forS, popF, noEr_ok, noEr_er, yes, List.getElem?_cons_zero, List.getElem?_cons_succ, List.set_cons_zero, List.set_cons_succ, Option.bind_some, Option.bind_none, Option.map_some, Option.map_none, if_true, if_false, Bool.false_eq_true, if_pos, List.map_cons, List.map_nil, add_int, sub_int, negD, notD, boolOf, isD, isntD, isNone, Tg.put, Tg.puts, sh0, sh1, sh2, sh3, sh4, sh5, sh6, sh7, sh8, sh9, sh10, sh11, sh12, sh13, sh14, sh15, sh16, step_nx, step_ct, Nat.add_one_sub_one, Nat.sub_self, Nat.zero_add, Nat.reduceAdd, Nat.reduceSub, is_square_eq]; rfl, rfl⟩) (by omega)
      exact ⟨[.val (.tuple [.int c, rowsD rs]), .val (.int c), .val (rowsD rs), .val (.int V), .val (rowD r), .un], by simp only [E_is_chart_2, runD, runO, out0, slots0, List.replicate, List.append_nil, List.cons_append, List.nil_append, List.length_cons, List.length_nil, retS, retC, retO, retN, seqS, ifS, asg, asgO, exprS, appS, setS, augS, asgT, raiseS, nxS, op1, op2, op2C, tst, andF, orF, ifF, andB, orB, notB, chF, cst, vr, frz, frC, lstC, tupF, consF, nilF, bltF, bltC, one_d, bind_ok, bind_er, bind_bad, then_ok, then_er, then_bad, opt_some, opt_none, Vl.get, Slot.get, Slot.put, Slot.cont, Slot.lst, Slot.mut, Slot.shal, stables, sh, gets, argD, argB, callF, callO, callC, callB, callW, pick, Pk.of, and_self, boxC, partF, slF, srcF, srcR1, srcR2, srcZ, forS, popF, noEr_ok, noEr_er, yes, List.getElem?_cons_zero, List.getElem?_cons_succ, List.set_cons_zero, List.set_cons_succ, Option.bind_some, Option.bind_none, Option.map_some, Option.map_none, if_true, if_false, Bool.false_eq_true, if_pos, List.map_cons, List.map_nil, add_int, sub_int, negD, notD, boolOf, isD, isntD, isNone, Tg.put, Tg.puts, sh0, sh1, sh2, sh3, sh4, sh5, sh6, sh7, sh8, sh9, sh10, sh11, sh12, sh13, sh14, sh15, sh16, step_nx, step_ct, Nat.add_one_sub_one, Nat.sub_self, Nat.zero_add, Nat.reduceAdd, Nat.reduceSub, lr, eq_int, e1, e2, ra, all_B, Bool.true_and], rfl⟩
    · have e1 : (R == V) = false := beq_false_of_ne (by omega)
      have e2 : (r.length == (rs.getD 0 []).length) = false := beq_false_of_ne q
      exact ⟨[.val (.tuple [.int c, rowsD rs]), .val (.int c), .val (rowsD rs), .val (.int V), .val (rowD r), .un], by simp only [E_is_chart_2, runD, runO, out0, slots0, List.replicate, List.append_nil, List.cons_append, List.nil_append, List.length_cons, List.length_nil, retS, retC, retO, retN, seqS, ifS, asg, asgO, exprS, appS, setS, augS, asgT, raiseS, nxS, op1, op2, op2C, tst, andF, orF, ifF, andB, orB, notB, chF, cst, vr, frz, frC, lstC, tupF, consF, nilF, bltF, bltC, one_d, bind_ok, bind_er, bind_bad, then_ok, then_er, then_bad, opt_some, opt_none, Vl.get, Slot.get, Slot.put, Slot.cont, Slot.lst, Slot.mut, Slot.shal, stables, sh, gets, argD, argB, callF, callO, callC, callB, callW, pick, Pk.of, and_self, boxC, partF, slF, srcF, srcR1, srcR2, srcZ, forS, popF, noEr_ok, noEr_er, yes, List.getElem?_cons_zero, List.getElem?_cons_succ, List.set_cons_zero, List.set_cons_succ, Option.bind_some, Option.bind_none, Option.map_some, Option.map_none, if_true, if_false, Bool.false_eq_true, if_pos, List.map_cons, List.map_nil, add_int, sub_int, negD, notD, boolOf, isD, isntD, isNone, Tg.put, Tg.puts, sh0, sh1, sh2, sh3, sh4, sh5, sh6, sh7, sh8, sh9, sh10, sh11, sh12, sh13, sh14, sh15, sh16, step_nx, step_ct, Nat.add_one_sub_one, Nat.sub_self, Nat.zero_add, Nat.reduceAdd, Nat.reduceSub, lr, eq_int, e1, e2, Bool.false_and], rfl⟩
  simp only [F_is_chart, f_is_chart, chD, runD, runO, out0, slots0, List.replicate, List.append_nil, List.cons_append, List.nil_append, List.length_cons, List.length_nil, retS, retC, retO, retN, seqS, ifS, asg, asgO, exprS, appS, setS, augS, asgT, raiseS, nxS, op1, op2, op2C, tst, andF, orF, ifF, andB, orB, notB, chF, cst, vr, frz, frC, lstC, tupF, consF, nilF, bltF, bltC, one_d, bind_ok, bind_er, bind_bad, then_ok, then_er, then_bad, opt_some, opt_none, Vl.get, Slot.get, Slot.put, Slot.cont, Slot.lst, Slot.mut, Slot.shal, stables, sh, gets, argD, argB, callF, callO, callC, callB, callW, pick, Pk.of, and_self, boxC, partF, slF, srcF, srcR1, srcR2, srcZ, forS, popF, noEr_ok, noEr_er, yes, List.getElem?_cons_zero, List.getElem?_cons_succ, List.set_cons_zero, List.set_cons_succ, Option.bind_some, Option.bind_none, Option.map_some, Option.map_none, if_true, if_false, Bool.false_eq_true, if_pos, List.map_cons, List.map_nil, add_int, sub_int, negD, notD, boolOf, isD, isntD, isNone, Tg.put, Tg.puts, sh0, sh1, sh2, sh3, sh4, sh5, sh6, sh7, sh8, sh9, sh10, sh11, sh12, sh13, sh14, sh15, sh16, step_nx, step_ct, Nat.add_one_sub_one, Nat.sub_self, Nat.zero_add, Nat.reduceAdd, Nat.reduceSub, is_clock_eq, h1, Bool.not_false, Bool.not_true, ll, leI, decide_eq_true h2, decide_eq_true h3, i0, lv, decide_eq_true h4, decide_eq_true h5, cm, all_B, isChart, Bool.true_and, g2, g3, g4, g5]
theorem Ch.is {most unt c : Int} {wide : Nat} {rs : List (List Int)} (h : Ch most unt c wide rs) (hm : most ≤ 9) : isChart c rs = true := by
  obtain ⟨l1, l2⟩ := h.len
  obtain ⟨w1, w2⟩ := h.w
  have m0 : rs.getD 0 [] ∈ rs := getD_inG (by omega)
  have r0 := h.rect _ m0
  unfold isChart
  rw [h.clk.is, r0, decide_eq_true (show 1 ≤ rs.length by omega), decide_eq_true (show rs.length ≤ 9 by omega), decide_eq_true (show 1 ≤ wide by omega), decide_eq_true (show wide ≤ 9 by omega)]
  simp only [Bool.true_and, Bool.and_true]
  refine List.all_eq_true.mpr fun r m => ?_
  rw [h.rect r m, beq_self_eq_true, Bool.true_and]
  refine List.all_eq_true.mpr fun v mv => ?_
  obtain ⟨v1, v2, _⟩ := h.cell r m v mv
  unfold isSq
  rw [decide_eq_true v1, decide_eq_true v2]
  rfl
theorem need_chart_eq {c : Int} {rs : List (List Int)} (h : isChart c rs = true) : F_need_chart [chD c rs] = .ok .none false .none := by
  simp only [F_need_chart, f_need_chart, runD, runO, out0, slots0, List.replicate, List.append_nil, List.cons_append, List.nil_append, List.length_cons, List.length_nil, retS, retC, retO, retN, seqS, ifS, asg, asgO, exprS, appS, setS, augS, asgT, raiseS, nxS, op1, op2, op2C, tst, andF, orF, ifF, andB, orB, notB, chF, cst, vr, frz, frC, lstC, tupF, consF, nilF, bltF, bltC, one_d, bind_ok, bind_er, bind_bad, then_ok, then_er, then_bad, opt_some, opt_none, Vl.get, Slot.get, Slot.put, Slot.cont, Slot.lst, Slot.mut, Slot.shal, stables, sh, gets, argD, argB, callF, callO, callC, callB, callW, pick, Pk.of, and_self, boxC, partF, slF, srcF, srcR1, srcR2, srcZ, forS, popF, noEr_ok, noEr_er, yes, List.getElem?_cons_zero, List.getElem?_cons_succ, List.set_cons_zero, List.set_cons_succ, Option.bind_some, Option.bind_none, Option.map_some, Option.map_none, if_true, if_false, Bool.false_eq_true, if_pos, List.map_cons, List.map_nil, add_int, sub_int, negD, notD, boolOf, isD, isntD, isNone, Tg.put, Tg.puts, sh0, sh1, sh2, sh3, sh4, sh5, sh6, sh7, sh8, sh9, sh10, sh11, sh12, sh13, sh14, sh15, sh16, step_nx, step_ct, Nat.add_one_sub_one, Nat.sub_self, Nat.zero_add, Nat.reduceAdd, Nat.reduceSub, is_chart_eq, h, Bool.not_true]
/-! ### grids -/
def cell (rs : List (List Int)) (i j : Nat) : Int := (rs.getD i []).getD j 0
def grid (h w : Nat) (f : Nat → Nat → Int) : List (List Int) := (List.range h).map fun i => (List.range w).map (f i)
theorem getD_range {α : Type} {f : Nat → α} {n i : Nat} {z : α} (h : i < n) : ((List.range n).map f).getD i z = f i := by
  rw [List.getD_eq_getElem?_getD, List.getElem?_map, List.getElem?_range h]
  rfl
theorem cell_grid {h w : Nat} {f : Nat → Nat → Int} {i j : Nat} (hi : i < h) (hj : j < w) : cell (grid h w f) i j = f i j := by
  unfold cell grid
  rw [getD_range hi, getD_range hj]
theorem list_range {α : Type} (xs : List α) (z : α) : (List.range xs.length).map (fun i => xs.getD i z) = xs := by
  refine List.ext_getElem? fun i => ?_
  rw [List.getElem?_map]
  by_cases h : i < xs.length
  · rw [List.getElem?_range h, Option.map_some, List.getD_eq_getElem?_getD, List.getElem?_eq_getElem h]
    rfl
  · rw [List.getElem?_eq_none (by rw [List.length_range]; omega), List.getElem?_eq_none (by omega)]
    rfl
structure Rc (c : Int) (h w : Nat) (rs : List (List Int)) : Prop where
  clk : Clk c
  len : rs.length = h
  h1 : 1 ≤ h
  h9 : h ≤ 9
  w1 : 1 ≤ w
  w9 : w ≤ 9
  rect : ∀ r ∈ rs, r.length = w
  ok : ∀ r ∈ rs, ∀ v ∈ r, -2 ≤ v ∧ v < c
theorem Ch.rc {most unt c : Int} {wide : Nat} {rs : List (List Int)} (h : Ch most unt c wide rs) (hm : most ≤ 9) : Rc c rs.length wide rs := by
  obtain ⟨l1, l2⟩ := h.len
  obtain ⟨w1, w2⟩ := h.w
  exact ⟨h.clk, rfl, l1, by omega, w1, by omega, h.rect, fun r m v mv => ⟨(h.cell r m v mv).1, (h.cell r m v mv).2.1⟩⟩
theorem Rc.eq_grid {c : Int} {h w : Nat} {rs : List (List Int)} (g : Rc c h w rs) : rs = grid h w (cell rs) := by
  unfold grid
  conv => lhs; rw [← list_range rs [], g.len]
  refine List.map_congr_left fun i hi => ?_
  have hi := List.mem_range.mp hi
  have m : rs.getD i [] ∈ rs := getD_inG (by rw [g.len]; exact hi)
  conv => lhs; rw [← list_range (rs.getD i []) 0, g.rect _ m]
  rfl
theorem Rc.cell_ok {c : Int} {h w : Nat} {rs : List (List Int)} (g : Rc c h w rs) {i j : Nat} (hi : i < h) (hj : j < w) : -2 ≤ cell rs i j ∧ cell rs i j < c := by
  have m : rs.getD i [] ∈ rs := getD_inG (by rw [g.len]; exact hi)
  exact g.ok _ m _ (getD_inG (by rw [g.rect _ m]; exact hj))
theorem Rc.of_grid {c : Int} {h w : Nat} {f : Nat → Nat → Int} (hc : Clk c) (h1 : 1 ≤ h) (h9 : h ≤ 9) (w1 : 1 ≤ w) (w9 : w ≤ 9) (hf : ∀ i j, i < h → j < w → -2 ≤ f i j ∧ f i j < c) : Rc c h w (grid h w f) :=
  ⟨hc, by unfold grid; rw [List.length_map, List.length_range], h1, h9, w1, w9, fun r m => by
    obtain ⟨i, _, e⟩ := List.mem_map.mp m
    rw [← e, List.length_map, List.length_range], fun r m v mv => by
    obtain ⟨i, hi, e⟩ := List.mem_map.mp m
    rw [← e] at mv
    obtain ⟨j, hj, e2⟩ := List.mem_map.mp mv
    rw [← e2]
    exact hf i j (List.mem_range.mp hi) (List.mem_range.mp hj)⟩
theorem grid_congr {h w : Nat} {f g : Nat → Nat → Int} (e : ∀ i j, i < h → j < w → f i j = g i j) : grid h w f = grid h w g :=
  List.map_congr_left fun i hi => List.map_congr_left fun j hj => e i j (List.mem_range.mp hi) (List.mem_range.mp hj)
theorem Rc.is {c : Int} {h w : Nat} {rs : List (List Int)} (g : Rc c h w rs) : isChart c rs = true := by
  have q : Ch 9 1 c w rs := ⟨g.clk, ⟨by rw [g.len]; exact g.h1, by rw [g.len]; have := g.h9; omega⟩, ⟨g.w1, by have := g.w9; omega⟩, g.rect, fun r m v mv => ⟨(g.ok r m v mv).1, (g.ok r m v mv).2, fun z => absurd z (by decide)⟩⟩
  exact q.is (by decide)
/-! ### tuples of rows -/
theorem tup_intsM {α : Type} (xs : List α) (f : α → Int) : tupleD (.list (xs.map fun x => .int (f x))) = some (rowD (xs.map f)) := by
  show some (PyData.tuple _) = _
  unfold rowD
  rw [List.map_map]
  rfl
theorem tup_rows (rs : List (List Int)) : tupleD (.list (rs.map rowD)) = some (rowsD rs) := rfl
theorem tup_rowsM {α : Type} (xs : List α) (f : α → List Int) : tupleD (.list (xs.map fun x => rowD (f x))) = some (rowsD (xs.map f)) := by
  show some (PyData.tuple _) = _
  unfold rowsD
  rw [List.map_map]
  rfl
theorem Rc.w_eq {c : Int} {h w : Nat} {rs : List (List Int)} (g : Rc c h w rs) : ixD (rowsD rs) (.int 0) = some (rowD (rs.getD 0 [])) ∧ lenD (rowD (rs.getD 0 [])) = some (.int (w : Int)) ∧ lenD (rowsD rs) = some (.int (h : Int)) := by
  have l0 : 0 < rs.length := by rw [g.len]; have := g.h1; omega
  refine ⟨rows_at l0, ?_, by rw [len_rows, g.len]⟩
  rw [len_row, g.rect _ (getD_inG l0)]
theorem tup_ints (r : List Int) : tupleD (.list (r.map PyData.int)) = some (rowD r) := rfl
/-! trees as lists of lists -/
theorem appR_ix {i k : Nat} {ds cs : List D} {ρ ρ1 : En} {fa : EF} {z : D} (h : ρ[i]? = some (.tre (.list ds))) (hk : ds[k]? = some (bx (.list cs))) (hl : cs.length < 100000) (e : fa (ρ.set i .un) = .ok (.st z) ρ1) :
    appR i (ixR i (fun _ => some []) (fun _ => some (.int (k : Int)))) fa ρ = .nx (ρ1.set i (.tre (.list (ds.set k (bx (.list (cs ++ [z]))))))) := by
  have hk1 := (List.getElem?_eq_some_iff.mp hk).1
  have e1 : ixN ds.length (k : Int) = some k := by unfold ixN; simp; omega
  have e2 : ixR i (fun _ => some []) (fun _ => some (.int (k : Int))) ρ = some [k] := by
    unfold ixR
    rw [h]
    simp only [Option.bind_some, Slot.tree, getIn, e1, hk, unbox_bx, List.nil_append]
  unfold appR
  rw [h]
  simp only [Slot.tree, e2, getIn, kids, hk, Option.bind_some, unbox_bx, e, if_pos hl, Slot.putT, setIn, withKids]
theorem setR_ix {i k : Nat} {ds : List D} {ρ ρ1 : En} {fa : EF} {z : D} (e : fa ρ = .ok (.st z) ρ1) (h : ρ1[i]? = some (.tre (.list ds))) (hk : k < ds.length) :
    setR i (fun _ => some []) (fun _ => some (.int (k : Int))) fa ρ = .nx (ρ1.set i (.tre (.list (ds.set k z)))) := by
  have e1 : ixN ds.length (k : Int) = some k := by unfold ixN; simp; omega
  unfold setR
  rw [e, then_ok, h]
  simp only [Slot.tree, getIn, e1, Slot.putT, setIn]
theorem frzIx_ix {i k : Nat} {ds : List D} {ρ : En} {x : D} (h : ρ[i]? = some (.tre (.list ds))) (hk : ds[k]? = some x) :
    frzIx i (fun _ => some []) (fun _ => some (.int (k : Int))) ρ = .ok (.st (DL.strip x)) (ρ.set i (.tre (.list (ds.set k (DL.strip x))))) := by
  have hk1 := (List.getElem?_eq_some_iff.mp hk).1
  have e1 : ixN ds.length (k : Int) = some k := by unfold ixN; simp; omega
  unfold frzIx
  rw [h]
  simp only [getIn, e1, hk, setIn]
theorem strip_row (r : List Int) : DL.strip (rowD r) = rowD r := by unfold rowD DL.strip; rfl
theorem stripA_rows (rs : List (List Int)) : stripA (rs.map rowD) = rs.map rowD := by
  induction rs with
  | nil => unfold stripA; rfl
  | cons r rs ih => rw [List.map_cons]; unfold stripA; rw [strip_row, ih]
theorem strip_rowsL (rs : List (List Int))   : DL.strip (bx (.list (rs.map rowD))) = .list (rs.map rowD) := by
  unfold bx DL.strip
  rw [stripA_rows]
abbrev rowsL (rs : List (List Int)) : D := .list (rs.map rowD)
theorem strip_rowsP (rs : List (List Int)) : DL.strip (rowsL rs) = rowsL rs := by unfold rowsL DL.strip; rfl
theorem smOk_ch {n : Nat} {c : Int} {rs : List (List Int)} (h : rs.length ≤ 100000) (h2 : ∀ r ∈ rs, r.length ≤ 100000) : smOk (n + 4) (chD c rs) = true := by
  have e1 : ∀ r ∈ rs, smOk (n + 2) (rowD r) = true := fun r m => by
    show (decide ((r.map PyData.int).length ≤ 100000) && (r.map PyData.int).all (smOk (n + 1))) = true
    rw [List.length_map, decide_eq_true (h2 r m), Bool.true_and]
    exact List.all_eq_true.mpr fun d m => by
      obtain ⟨j, _, e⟩ := List.mem_map.mp m
      subst e
      rfl
  have e2 : smOk (n + 3) (rowsD rs) = true := by
    show (decide ((rs.map rowD).length ≤ 100000) && (rs.map rowD).all (smOk (n + 2))) = true
    rw [List.length_map, decide_eq_true h, Bool.true_and]
    exact List.all_eq_true.mpr fun d m => by
      obtain ⟨j, mj, e⟩ := List.mem_map.mp m
      subst e
      exact e1 j mj
  show (decide (2 ≤ 100000) && ([PyData.int c, rowsD rs].all (smOk (n + 3)))) = true
  rw [List.all_cons, List.all_cons, List.all_nil, e2]
  rfl
theorem Rc.sm {c : Int} {h w : Nat} {rs : List (List Int)} (g : Rc c h w rs) (n : Nat) : smOk (n + 4) (chD c rs) = true :=
  smOk_ch (by rw [g.len]; have := g.h9; omega) fun r m => by rw [g.rect r m]; have := g.w9; omega
/-! ### all squares -/
theorem all_eq {c : Int} {h w : Nat} {p : List (List Int)} (g : Rc c h w p) : F__law_all [chD c p] = .ok (.list ((List.range (w * h)).map fun (k : Nat) => .tuple [.int ((k / w : Nat) : Int), .int ((k % w : Nat) : Int)])) true .none := by
  obtain ⟨i0, lv, ll⟩ := g.w_eq
  have w9 := g.w9
  have h9 := g.h9
  have w1 := g.w1
  have b : w * h ≤ 81 := Nat.le_trans (Nat.mul_le_mul w9 h9) (by decide)
  have mm : mulD (.int (w : Int)) (.int (h : Int)) = some (.int ((w * h : Nat) : Int)) := by
    rw [mul_l (by omega), Int.natCast_mul]
  have c1 : C__law_all_1 [.val (chD c p), .val (.int (w : Int)), .un] = .ok (.list ((List.range (w * h)).map fun (k : Nat) => .tuple [.int ((k / w : Nat) : Int), .int ((k % w : Nat) : Int)])) [.val (chD c p), .val (.int (w : Int)), .un] := by
    refine C_run _ (fun i : Nat => .int (i : Int)) _ (List.range (w * h)) (srcR1_nat (by simp only [runD, runO, out0, slots0, List.replicate, List.append_nil, List.cons_append, List.nil_append, List.length_cons, List.length_nil, retS, retC, retO, retN, seqS, ifS, asg, asgO, exprS, appS, setS, augS, asgT, raiseS, nxS, op1, op2, op2C, tst, andF, orF, ifF, andB, orB, notB, chF, cst, vr, frz, frC, lstC, tupF, consF, nilF, bltF, bltC, one_d, bind_ok, bind_er, bind_bad, then_ok, then_er, then_bad, opt_some, opt_none, Vl.get, Slot.get, Slot.put, Slot.cont, Slot.lst, Slot.mut, Slot.shal, stables, sh, gets, argD, argB, callF, callO, callC, callB, callW, pick, Pk.of, and_self, boxC, partF, slF, srcF, srcR1, srcR2, srcZ, forS, popF, noEr_ok, noEr_er, yes, List.getElem?_cons_zero, List.getElem?_cons_succ, List.set_cons_zero, List.set_cons_succ, Option.bind_some, Option.bind_none, Option.map_some, Option.map_none, if_true, if_false, Bool.false_eq_true, if_pos, List.map_cons, List.map_nil, add_int, sub_int, negD, notD, boolOf, isD, isntD, isNone, Tg.put, Tg.puts, sh0, sh1, sh2, sh3, sh4, sh5, sh6, sh7, sh8, sh9, sh10, sh11, sh12, sh13, sh14, sh15, sh16, step_nx, step_ct, Nat.add_one_sub_one, Nat.sub_self, Nat.zero_add, Nat.reduceAdd, Nat.reduceSub, ix_c1, ll, mm]; rfl) (by omega)) rfl (fun k _ => ⟨_, rfl, [.val (chD c p), .val (.int (w : Int)), .val (.int (k : Int))], ?_, rfl⟩) (by rw [List.length_range]; omega)
    simp only [E__law_all_1, runD, runO, out0, slots0, List.replicate, List.append_nil, List.cons_append, List.nil_append, List.length_cons, List.length_nil, retS, retC, retO, retN, seqS, ifS, asg, asgO, exprS, appS, setS, augS, asgT, raiseS, nxS, op1, op2, op2C, tst, andF, orF, ifF, andB, orB, notB, chF, cst, vr, frz, frC, lstC, tupF, consF, nilF, bltF, bltC, one_d, bind_ok, bind_er, bind_bad, then_ok, then_er, then_bad, opt_some, opt_none, Vl.get, Slot.get, Slot.put, Slot.cont, Slot.lst, Slot.mut, Slot.shal, stables, sh, gets, argD, argB, callF, callO, callC, callB, callW, pick, Pk.of, and_self, boxC, partF, slF, srcF, srcR1, srcR2, srcZ, forS, popF, noEr_ok, noEr_er, yes, List.getElem?_cons_zero, List.getElem?_cons_succ, List.set_cons_zero, List.set_cons_succ, Option.bind_some, Option.bind_none, Option.map_some, Option.map_none, if_true, if_false, Bool.false_eq_true, if_pos, List.map_cons, List.map_nil, add_int, sub_int, negD, notD, boolOf, isD, isntD, isNone, Tg.put, Tg.puts, sh0, sh1, sh2, sh3, sh4, sh5, sh6, sh7, sh8, sh9, sh10, sh11, sh12, sh13, sh14, sh15, sh16, step_nx, step_ct, Nat.add_one_sub_one, Nat.sub_self, Nat.zero_add, Nat.reduceAdd, Nat.reduceSub, div_ok (divOk_of (show (0 : Int) < w by omega) (by omega)), mod_p (show (0 : Int) < w by omega)]
    rfl
  simp only [F__law_all, f__law_all, runD, runO, out0, slots0, List.replicate, List.append_nil, List.cons_append, List.nil_append, List.length_cons, List.length_nil, retS, retC, retO, retN, seqS, ifS, asg, asgO, exprS, appS, setS, augS, asgT, raiseS, nxS, op1, op2, op2C, tst, andF, orF, ifF, andB, orB, notB, chF, cst, vr, frz, frC, lstC, tupF, consF, nilF, bltF, bltC, one_d, bind_ok, bind_er, bind_bad, then_ok, then_er, then_bad, opt_some, opt_none, Vl.get, Slot.get, Slot.put, Slot.cont, Slot.lst, Slot.mut, Slot.shal, stables, sh, gets, argD, argB, callF, callO, callC, callB, callW, pick, Pk.of, and_self, boxC, partF, slF, srcF, srcR1, srcR2, srcZ, forS, popF, noEr_ok, noEr_er, yes, List.getElem?_cons_zero, List.getElem?_cons_succ, List.set_cons_zero, List.set_cons_succ, Option.bind_some, Option.bind_none, Option.map_some, Option.map_none, if_true, if_false, Bool.false_eq_true, if_pos, List.map_cons, List.map_nil, add_int, sub_int, negD, notD, boolOf, isD, isntD, isNone, Tg.put, Tg.puts, sh0, sh1, sh2, sh3, sh4, sh5, sh6, sh7, sh8, sh9, sh10, sh11, sh12, sh13, sh14, sh15, sh16, step_nx, step_ct, Nat.add_one_sub_one, Nat.sub_self, Nat.zero_add, Nat.reduceAdd, Nat.reduceSub, ix_c1, i0, lv, c1]
abbrev Sq := Int × Int
/-! ### how far: the plain law -/
theorem nodup_len {α : Type} [DecidableEq α] : ∀ (l U : List α), l.Nodup → (∀ x ∈ l, x ∈ U) → l.length ≤ U.length
  | [], _, _, _ => Nat.zero_le _
  | x :: l, U, n, s => by
    rw [List.nodup_cons] at n
    have ih := nodup_len l (U.erase x) n.2 fun y m => (List.mem_erase_of_ne (fun e => n.1 (by rw [← e]; exact m))).mpr (s y (List.mem_cons_of_mem _ m))
    have h := s x (List.mem_cons_self ..)
    rw [List.length_erase_of_mem h] at ih
    have := List.length_pos_of_mem h
    rw [List.length_cons]
    omega
def nexts (p : Sq) : List Sq := [(p.1 - 1, p.2), (p.1 + 1, p.2), (p.1, p.2 - 1), (p.1, p.2 + 1)]
theorem nexts_iff {p q : Sq} : q ∈ nexts p ↔ (q.2 = p.2 ∧ (q.1 = p.1 - 1 ∨ q.1 = p.1 + 1)) ∨ (q.1 = p.1 ∧ (q.2 = p.2 - 1 ∨ q.2 = p.2 + 1)) := by
  obtain ⟨a, b⟩ := p
  obtain ⟨c, d⟩ := q
  simp only [nexts, List.mem_cons, List.not_mem_nil, or_false, Prod.mk.injEq]
  omega
theorem nexts_sym {p q : Sq} (h : q ∈ nexts p) : p ∈ nexts q := by
  rw [nexts_iff] at h ⊢
  omega
theorem nexts_irr (p : Sq) : p ∉ nexts p := fun h => by
  rw [nexts_iff] at h
  omega
abbrev FM := List (Sq × Nat)
def fget (m : FM) (p : Sq) : Option Nat := (m.find? fun e => decide (e.1 = p)).map (·.2)
theorem fget_mem {m : FM} {p : Sq} {n : Nat} (h : fget m p = some n) : (p, n) ∈ m := by
  unfold fget at h
  obtain ⟨e, h1, h2⟩ := Option.map_eq_some_iff.mp h
  have a := List.mem_of_find?_eq_some h1
  have b := List.find?_some h1
  rw [decide_eq_true_iff] at b
  rw [← b, ← h2]
  exact a
theorem fget_none {m : FM} {p : Sq} (h : fget m p = none) : ∀ n, (p, n) ∉ m := fun n a => by
  unfold fget at h
  rw [Option.map_eq_none_iff, List.find?_eq_none] at h
  exact h _ a (decide_eq_true rfl)
theorem fget_of {m : FM} (nd : (m.map (·.1)).Nodup) {p : Sq} {n : Nat} (h : (p, n) ∈ m) : fget m p = some n := by
  cases e : fget m p with
  | none => exact absurd h (fget_none e n)
  | some k =>
    have a := fget_mem e
    have : ∀ {l : FM}, (l.map (·.1)).Nodup → (p, n) ∈ l → (p, k) ∈ l → k = n := by
      intro l
      induction l with
      | nil => intro _ h _; cases h
      | cons x l ih =>
        intro nd h1 h2
        rw [List.map_cons, List.nodup_cons] at nd
        rcases List.mem_cons.mp h1 with r1 | r1
        · rcases List.mem_cons.mp h2 with r2 | r2
          · rw [← r1] at r2
            injection r2
          · exact absurd (List.mem_map.mpr ⟨_, r2, by rw [← r1]⟩) nd.1
        · rcases List.mem_cons.mp h2 with r2 | r2
          · exact absurd (List.mem_map.mpr ⟨_, r1, by rw [← r2]⟩) nd.1
          · exact ih nd.2 r1 r2
    rw [this nd h a]
/-- what holds of the squares that were met -/
structure Far0 (good : Sq → Bool) (first : Sq) (m : FM) : Prop where
  nd : (m.map (·.1)).Nodup
  ok : ∀ e ∈ m, good e.1 = true
  zero : ∀ e ∈ m, e.2 = 0 → e.1 = first
  pre : ∀ e ∈ m, 0 < e.2 → ∃ e' ∈ m, e'.2 + 1 = e.2 ∧ e.1 ∈ nexts e'.1
  start : (first, 0) ∈ m
abbrev FS := FM × List Sq
def farStep (good : Sq → Bool) (t : Nat) (st : FS) (o : Sq) : FS := if (fget st.1 o).isNone = true ∧ good o = true then (st.1 ++ [(o, t + 1)], st.2 ++ [o]) else st
def farSq (good : Sq → Bool) (t : Nat) (st : FS) (s : Sq) : FS := (nexts s).foldl (farStep good t) st
def farTurn (good : Sq → Bool) (st : FS) (t : Nat) : FS := st.2.foldl (farSq good t) (st.1, [])
def farAll (good : Sq → Bool) (first : Sq) (n : Nat) : FS := (List.range n).foldl (farTurn good) ([(first, 0)], [first])
/-- within a turn: m0 as it stood when the turn began -/
structure FarW (good : Sq → Bool) (first : Sq) (t : Nat) (m0 : FM) (st : FS) : Prop where
  f0 : Far0 good first st.1
  old : ∀ e, e ∈ st.1 → e ∈ m0 ∨ (e.2 = t + 1 ∧ e.1 ∈ st.2)
  sub : ∀ e ∈ m0, e ∈ st.1
  wid : ∀ p ∈ st.2, (p, t + 1) ∈ st.1
  len : st.2.length ≤ st.1.length
theorem FarW.step {good : Sq → Bool} {first : Sq} {t : Nat} {m0 : FM} {st : FS} (h : FarW good first t m0 st) {s o : Sq} (hs : (s, t) ∈ st.1) (ho : o ∈ nexts s) :
    FarW good first t m0 (farStep good t st o) ∧ (∀ e ∈ st.1, e ∈ (farStep good t st o).1) ∧ (good o = true → ∃ n, (o, n) ∈ (farStep good t st o).1) := by
  unfold farStep
  by_cases c : (fget st.1 o).isNone = true ∧ good o = true
  · rw [if_pos c]
    have nn : fget st.1 o = none := by
      cases e : fget st.1 o with
      | none => rfl
      | some _ => rw [e] at c; cases c.1
    have no := fget_none nn
    refine ⟨⟨⟨?_, fun e m => ?_, fun e m z => ?_, fun e m z => ?_, List.mem_append_left _ h.f0.start⟩, fun e m => ?_, fun e m => List.mem_append_left _ (h.sub e m), fun p m => ?_, ?_⟩, fun e m => List.mem_append_left _ m, fun _ => ⟨t + 1, List.mem_append_right _ (List.mem_singleton_self _)⟩⟩
    · rw [List.map_append, List.nodup_append]
      refine ⟨h.f0.nd, by simp, fun a ha b hb => ?_⟩
      obtain ⟨e, me, rfl⟩ := List.mem_map.mp ha
      have hb : b = o := by simpa using hb
      subst hb
      exact fun q => no e.2 (by rw [← q]; exact me)
    · rcases List.mem_append.mp m with m | m
      · exact h.f0.ok e m
      · rw [List.mem_singleton] at m; subst m; exact c.2
    · rcases List.mem_append.mp m with m | m
      · exact h.f0.zero e m z
      · rw [List.mem_singleton] at m; subst m; cases z
    · rcases List.mem_append.mp m with m | m
      · obtain ⟨e', m', r⟩ := h.f0.pre e m z
        exact ⟨e', List.mem_append_left _ m', r⟩
      · rw [List.mem_singleton] at m; subst m
        exact ⟨(s, t), List.mem_append_left _ hs, rfl, ho⟩
    · rcases List.mem_append.mp m with m | m
      · exact (h.old e m).imp id fun r => ⟨r.1, List.mem_append_left _ r.2⟩
      · rw [List.mem_singleton] at m; subst m
        exact .inr ⟨rfl, List.mem_append_right _ (List.mem_singleton_self _)⟩
    · rcases List.mem_append.mp m with m | m
      · exact List.mem_append_left _ (h.wid p m)
      · rw [List.mem_singleton] at m; subst m
        exact List.mem_append_right _ (List.mem_singleton_self _)
    · have := h.len
      simp only [List.length_append, List.length_cons, List.length_nil]
      omega
  · rw [if_neg c]
    refine ⟨h, fun e m => m, fun g => ?_⟩
    cases e : fget st.1 o with
    | some n => exact ⟨n, fget_mem e⟩
    | none => exact absurd ⟨by rw [e]; rfl, g⟩ c
theorem FarW.steps {good : Sq → Bool} {first : Sq} {t : Nat} {m0 : FM} {s : Sq} : ∀ (os : List Sq) {st : FS}, FarW good first t m0 st → (s, t) ∈ st.1 → (∀ o ∈ os, o ∈ nexts s) →
    FarW good first t m0 (os.foldl (farStep good t) st) ∧ (∀ e ∈ st.1, e ∈ (os.foldl (farStep good t) st).1) ∧ ∀ o ∈ os, good o = true → ∃ n, (o, n) ∈ (os.foldl (farStep good t) st).1
  | [], _, h, _, _ => ⟨h, fun _ m => m, fun _ m => by cases m⟩
  | o :: os, st, h, hs, ho => by
    obtain ⟨a, b, c⟩ := h.step hs (ho o (List.mem_cons_self ..))
    obtain ⟨a2, b2, c2⟩ := FarW.steps os a (b _ hs) fun x m => ho x (List.mem_cons_of_mem _ m)
    rw [List.foldl_cons]
    refine ⟨a2, fun e m => b2 e (b e m), fun x m g => ?_⟩
    rcases List.mem_cons.mp m with rfl | m
    · obtain ⟨n, q⟩ := c g
      exact ⟨n, b2 _ q⟩
    · exact c2 x m g
theorem FarW.line {good : Sq → Bool} {first : Sq} {t : Nat} {m0 : FM} : ∀ (ss : List Sq) {st : FS}, FarW good first t m0 st → (∀ s ∈ ss, (s, t) ∈ m0) →
    FarW good first t m0 (ss.foldl (farSq good t) st) ∧ (∀ e ∈ st.1, e ∈ (ss.foldl (farSq good t) st).1) ∧ ∀ s ∈ ss, ∀ o ∈ nexts s, good o = true → ∃ n, (o, n) ∈ (ss.foldl (farSq good t) st).1
  | [], _, h, _ => ⟨h, fun _ m => m, fun _ m => by cases m⟩
  | s :: ss, st, h, hs => by
    obtain ⟨a, b, c⟩ := FarW.steps (s := s) (nexts s) h (h.sub _ (hs s (List.mem_cons_self ..))) fun _ m => m
    obtain ⟨a2, b2, c2⟩ := FarW.line ss (st := farSq good t st s) a fun x m => hs x (List.mem_cons_of_mem _ m)
    rw [List.foldl_cons]
    refine ⟨a2, fun e m => b2 e (b e m), fun x m o mo g => ?_⟩
    rcases List.mem_cons.mp m with rfl | m
    · obtain ⟨n, q⟩ := c o mo g
      exact ⟨n, b2 _ q⟩
    · exact c2 x m o mo g
/-- between turns -/
structure FarT (good : Sq → Bool) (first : Sq) (t : Nat) (st : FS) : Prop where
  f0 : Far0 good first st.1
  le : ∀ e ∈ st.1, e.2 ≤ t
  line : ∀ p, p ∈ st.2 ↔ (p, t) ∈ st.1
  cl : ∀ e ∈ st.1, e.2 < t → ∀ q ∈ nexts e.1, good q = true → ∃ n, (q, n) ∈ st.1
  len : st.2.length ≤ st.1.length
theorem FarT.start {good : Sq → Bool} {first : Sq} (g : good first = true) : FarT good first 0 ([(first, 0)], [first]) :=
  ⟨⟨by simp, fun e m => by rw [List.mem_singleton] at m; subst m; exact g, fun e m _ => by rw [List.mem_singleton] at m; subst m; rfl, fun e m z => by rw [List.mem_singleton] at m; subst m; exact absurd z (Nat.lt_irrefl 0), List.mem_singleton_self _⟩,
    fun e m => by rw [List.mem_singleton] at m; subst m; exact Nat.le_refl _, fun p => by simp, fun e m z => absurd z (Nat.not_lt_zero _), Nat.le_refl _⟩
theorem FarT.in_turn {good : Sq → Bool} {first : Sq} {t : Nat} {st : FS} (h : FarT good first t st) : FarW good first t st.1 (st.1, []) :=
  ⟨h.f0, fun e m => .inl m, fun e m => m, fun p m => absurd m List.not_mem_nil, Nat.zero_le _⟩
theorem FarT.turn {good : Sq → Bool} {first : Sq} {t : Nat} {st : FS} (h : FarT good first t st) : FarT good first (t + 1) (farTurn good st t) := by
  obtain ⟨a, b, c⟩ := FarW.line st.2 h.in_turn fun s m => (h.line s).mp m
  refine ⟨a.f0, fun e m => ?_, fun p => ⟨fun m => a.wid p m, fun m => ?_⟩, fun e m l q hq g => ?_, a.len⟩
  · rcases a.old e m with r | r
    · exact Nat.le_succ_of_le (h.le e r)
    · omega
  · rcases a.old _ m with r | r
    · have := h.le _ r
      simp only at this
      omega
    · exact r.2
  · rcases a.old e m with r | r
    · by_cases z : e.2 = t
      · exact c e.1 ((h.line _).mpr (by rw [← z]; exact r)) q hq g
      · obtain ⟨n, y⟩ := h.cl e r (by omega) q hq g
        exact ⟨n, a.sub _ y⟩
    · omega
theorem FarT.all {good : Sq → Bool} {first : Sq} (g : good first = true) : ∀ n, FarT good first n (farAll good first n)
  | 0 => FarT.start g
  | n + 1 => by
    unfold farAll
    rw [List.range_succ, List.foldl_append]
    exact (FarT.all g n).turn
/-- it goes down to nothing -/
theorem Far0.down {good : Sq → Bool} {first : Sq} {m : FM} (h : Far0 good first m) : ∀ (t : Nat) (e : Sq × Nat), e ∈ m → e.2 = t → ∀ k, k ≤ t → k ∈ m.map (·.2)
  | 0, e, me, z, k, hk => by
    have : k = 0 := by omega
    subst this
    exact List.mem_map.mpr ⟨e, me, z⟩
  | t + 1, e, me, z, k, hk => by
    by_cases q : k = t + 1
    · subst q
      exact List.mem_map.mpr ⟨e, me, z⟩
    · obtain ⟨e', m', r, _⟩ := h.pre e me (by omega)
      exact h.down t e' m' (by omega) k (by omega)
theorem Far0.len {good : Sq → Bool} {first : Sq} {m : FM} (h : Far0 good first m) {U : List Sq} (u : ∀ p, good p = true → p ∈ U) : m.length ≤ U.length := by
  have := nodup_len (m.map (·.1)) U h.nd fun x mx => by
    obtain ⟨e, me, rfl⟩ := List.mem_map.mp mx
    exact u _ (h.ok e me)
  rwa [List.length_map] at this
theorem Far0.high {good : Sq → Bool} {first : Sq} {m : FM} (h : Far0 good first m) {U : List Sq} (u : ∀ p, good p = true → p ∈ U) {e : Sq × Nat} (me : e ∈ m) : e.2 < U.length := by
  have a := h.len u
  have b := nodup_len (List.range (e.2 + 1)) (m.map (·.2)) List.nodup_range fun k mk => h.down e.2 e me rfl k (by have := List.mem_range.mp mk; omega)
  rw [List.length_range, List.length_map] at b
  omega
/-- what a whole walk outward tells -/
structure FarOk (good : Sq → Bool) (first : Sq) (m : FM) : Prop extends Far0 good first m where
  cl : ∀ e ∈ m, ∀ q ∈ nexts e.1, good q = true → ∃ n, (q, n) ∈ m
theorem farAll_ok {good : Sq → Bool} {first : Sq} (g : good first = true) {U : List Sq} (u : ∀ p, good p = true → p ∈ U) {n : Nat} (hn : U.length ≤ n) : FarOk good first (farAll good first n).1 := by
  have h := FarT.all g n
  exact ⟨h.f0, fun e m q hq gq => h.cl e m (Nat.lt_of_lt_of_le (h.f0.high u m) hn) q hq gq⟩
theorem FarOk.get {good : Sq → Bool} {first : Sq} {m : FM} (h : FarOk good first m) {p q : Sq} {n : Nat} (hp : fget m p = some n) (hq : q ∈ nexts p) (g : good q = true) : ∃ k, fget m q = some k := by
  obtain ⟨k, y⟩ := h.cl _ (fget_mem hp) q hq g
  exact ⟨k, fget_of h.nd y⟩
theorem Far0.prev {good : Sq → Bool} {first : Sq} {m : FM} (h : Far0 good first m) {p : Sq} {n : Nat} (hp : fget m p = some (n + 1)) : ∃ q ∈ nexts p, fget m q = some n ∧ good q = true := by
  obtain ⟨e, me, a, b⟩ := h.pre _ (fget_mem hp) (Nat.succ_pos n)
  have a : e.2 = n := by simp only at a; omega
  exact ⟨e.1, nexts_sym b, fget_of h.nd (by rw [← a]; exact me), h.ok e me⟩
theorem Far0.first0 {good : Sq → Bool} {first : Sq} {m : FM} (h : Far0 good first m) : fget m first = some 0 := fget_of h.nd h.start
/-- more than one: the first has a good square beside it -/
theorem Far0.beside {good : Sq → Bool} {first : Sq} {m : FM} (h : Far0 good first m) (l : 1 < m.length) : ∃ q ∈ nexts first, good q = true := by
  have hk : ∃ e ∈ m, 0 < e.2 := by
    refine Classical.byContradiction fun no => ?_
    have all0 : ∀ x ∈ m.map (·.1), x ∈ [first] := fun x mx => by
      obtain ⟨e, me, rfl⟩ := List.mem_map.mp mx
      rw [List.mem_singleton]
      refine h.zero e me ?_
      cases q : e.2 with
      | zero => rfl
      | succ k => exact absurd ⟨e, me, by omega⟩ no
    have := nodup_len _ _ h.nd all0
    rw [List.length_map] at this
    simp only [List.length_cons, List.length_nil] at this
    omega
  obtain ⟨e, me, pe⟩ := hk
  have d1 := h.down e.2 e me rfl 1 (by omega)
  obtain ⟨e1, m1, z1⟩ := List.mem_map.mp d1
  obtain ⟨e0, m0, z0, a⟩ := h.pre e1 m1 (by omega)
  have f := h.zero e0 m0 (by omega)
  rw [f] at a
  exact ⟨e1.1, a, h.ok e1 m1⟩
/-! ### squares -/
def sqD (p : Sq) : D := .tuple [.int p.1, .int p.2]
def whatI (H W : Nat) (rs : List (List Int)) (p : Sq) : Int := if 0 ≤ p.1 ∧ p.1 < H ∧ 0 ≤ p.2 ∧ p.2 < W then cell rs p.1.toNat p.2.toNat else -1
def isIn (H W : Nat) (p : Sq) : Bool := decide (0 ≤ p.1) && decide (p.1 < H) && (decide (0 ≤ p.2) && decide (p.2 < W))
theorem isIn_iff {H W : Nat} {p : Sq} : isIn H W p = true ↔ 0 ≤ p.1 ∧ p.1 < H ∧ 0 ≤ p.2 ∧ p.2 < W := by
  unfold isIn
  simp only [Bool.and_eq_true, decide_eq_true_iff]
  omega
theorem Rc.at_ {c : Int} {H W : Nat} {rs : List (List Int)} (g : Rc c H W rs) {p : Sq} (h : isIn H W p = true) : ixD (rowsD rs) (.int p.1) = some (rowD (rs.getD p.1.toNat [])) ∧ ixD (rowD (rs.getD p.1.toNat [])) (.int p.2) = some (.int (cell rs p.1.toNat p.2.toNat)) := by
  obtain ⟨a, b⟩ := p
  rw [isIn_iff] at h
  obtain ⟨h1, h2, h3, h4⟩ := h
  obtain ⟨i, rfl⟩ := Int.eq_ofNat_of_zero_le h1
  obtain ⟨j, rfl⟩ := Int.eq_ofNat_of_zero_le h3
  have hi : i < rs.length := by rw [g.len]; simp only at h2; omega
  refine ⟨rows_at hi, ?_⟩
  exact row_at (by rw [Int.toNat_natCast, g.rect _ (getD_inG hi)]; simp only at h4; omega)
theorem what_eq {c : Int} {H W : Nat} {rs : List (List Int)} (g : Rc c H W rs) (p : Sq) : F__law_what [chD c rs, sqD p] = .ok (.int (whatI H W rs p)) false .none := by
  obtain ⟨i0, lv, ll⟩ := g.w_eq
  unfold whatI
  by_cases h : isIn H W p = true
  · obtain ⟨e1, e2⟩ := g.at_ h
    rw [isIn_iff] at h
    rw [if_pos h]
    obtain ⟨h1, h2, h3, h4⟩ := h
    simp only [F__law_what, f__law_what, sqD, runD, runO, out0, slots0, List.replicate, List.append_nil, List.cons_append, List.nil_append, List.length_cons, List.length_nil, retS, retC, retO, retN, seqS, ifS, asg, asgO, exprS, appS, setS, augS, asgT, raiseS, nxS, op1, op2, op2C, tst, andF, orF, ifF, andB, orB, notB, chF, cst, vr, frz, frC, lstC, tupF, consF, nilF, bltF, bltC, one_d, bind_ok, bind_er, bind_bad, then_ok, then_er, then_bad, opt_some, opt_none, Vl.get, Slot.get, Slot.put, Slot.cont, Slot.lst, Slot.mut, Slot.shal, stables, sh, gets, argD, argB, callF, callO, callC, callB, callW, pick, Pk.of, and_self, boxC, partF, slF, srcF, srcR1, srcR2, srcZ, forS, popF, noEr_ok, noEr_er, yes, List.getElem?_cons_zero, List.getElem?_cons_succ, List.set_cons_zero, List.set_cons_succ, Option.bind_some, Option.bind_none, Option.map_some, Option.map_none, if_true, if_false, Bool.false_eq_true, if_pos, List.map_cons, List.map_nil, add_int, sub_int, negD, notD, boolOf, isD, isntD, isNone, Tg.put, Tg.puts, sh0, sh1, sh2, sh3, sh4, sh5, sh6, sh7, sh8, sh9, sh10, sh11, sh12, sh13, sh14, sh15, sh16, step_nx, step_ct, Nat.add_one_sub_one, Nat.sub_self, Nat.zero_add, Nat.reduceAdd, Nat.reduceSub, ix_c1, i0, lv, ll, leI, ltI, decide_eq_true h1, decide_eq_true h2, decide_eq_true h3, decide_eq_true h4, e1, e2]
  · rw [isIn_iff] at h
    rw [if_neg h]
    by_cases h1 : 0 ≤ p.1
    case neg => simp only [F__law_what, f__law_what, sqD, runD, runO, out0, slots0, List.replicate, List.append_nil, List.cons_append, List.nil_append, List.length_cons, List.length_nil, retS, retC, retO, retN, seqS, ifS, asg, asgO, exprS, appS, setS, augS, asgT, raiseS, nxS, op1, op2, op2C, tst, andF, orF, ifF, andB, orB, notB, chF, cst, vr, frz, frC, lstC, tupF, consF, nilF, bltF, bltC, one_d, bind_ok, bind_er, bind_bad, then_ok, then_er, then_bad, opt_some, opt_none, Vl.get, Slot.get, Slot.put, Slot.cont, Slot.lst, Slot.mut, Slot.shal, stables, sh, gets, argD, argB, callF, callO, callC, callB, callW, pick, Pk.of, and_self, boxC, partF, slF, srcF, srcR1, srcR2, srcZ, forS, popF, noEr_ok, noEr_er, yes, List.getElem?_cons_zero, List.getElem?_cons_succ, List.set_cons_zero, List.set_cons_succ, Option.bind_some, Option.bind_none, Option.map_some, Option.map_none, if_true, if_false, Bool.false_eq_true, if_pos, List.map_cons, List.map_nil, add_int, sub_int, negD, notD, boolOf, isD, isntD, isNone, Tg.put, Tg.puts, sh0, sh1, sh2, sh3, sh4, sh5, sh6, sh7, sh8, sh9, sh10, sh11, sh12, sh13, sh14, sh15, sh16, step_nx, step_ct, Nat.add_one_sub_one, Nat.sub_self, Nat.zero_add, Nat.reduceAdd, Nat.reduceSub, ix_c1, i0, lv, ll, leI, ltI, decide_eq_false h1]
    by_cases h2 : p.1 < H
    case neg => simp only [F__law_what, f__law_what, sqD, runD, runO, out0, slots0, List.replicate, List.append_nil, List.cons_append, List.nil_append, List.length_cons, List.length_nil, retS, retC, retO, retN, seqS, ifS, asg, asgO, exprS, appS, setS, augS, asgT, raiseS, nxS, op1, op2, op2C, tst, andF, orF, ifF, andB, orB, notB, chF, cst, vr, frz, frC, lstC, tupF, consF, nilF, bltF, bltC, one_d, bind_ok, bind_er, bind_bad, then_ok, then_er, then_bad, opt_some, opt_none, Vl.get, Slot.get, Slot.put, Slot.cont, Slot.lst, Slot.mut, Slot.shal, stables, sh, gets, argD, argB, callF, callO, callC, callB, callW, pick, Pk.of, and_self, boxC, partF, slF, srcF, srcR1, srcR2, srcZ, forS, popF, noEr_ok, noEr_er, yes, List.getElem?_cons_zero, List.getElem?_cons_succ, List.set_cons_zero, List.set_cons_succ, Option.bind_some, Option.bind_none, Option.map_some, Option.map_none, if_true, if_false, Bool.false_eq_true, if_pos, List.map_cons, List.map_nil, add_int, sub_int, negD, notD, boolOf, isD, isntD, isNone, Tg.put, Tg.puts, sh0, sh1, sh2, sh3, sh4, sh5, sh6, sh7, sh8, sh9, sh10, sh11, sh12, sh13, sh14, sh15, sh16, step_nx, step_ct, Nat.add_one_sub_one, Nat.sub_self, Nat.zero_add, Nat.reduceAdd, Nat.reduceSub, ix_c1, i0, lv, ll, leI, ltI, decide_eq_true h1, decide_eq_false h2]
    by_cases h3 : 0 ≤ p.2
    case neg => simp only [F__law_what, f__law_what, sqD, runD, runO, out0, slots0, List.replicate, List.append_nil, List.cons_append, List.nil_append, List.length_cons, List.length_nil, retS, retC, retO, retN, seqS, ifS, asg, asgO, exprS, appS, setS, augS, asgT, raiseS, nxS, op1, op2, op2C, tst, andF, orF, ifF, andB, orB, notB, chF, cst, vr, frz, frC, lstC, tupF, consF, nilF, bltF, bltC, one_d, bind_ok, bind_er, bind_bad, then_ok, then_er, then_bad, opt_some, opt_none, Vl.get, Slot.get, Slot.put, Slot.cont, Slot.lst, Slot.mut, Slot.shal, stables, sh, gets, argD, argB, callF, callO, callC, callB, callW, pick, Pk.of, and_self, boxC, partF, slF, srcF, srcR1, srcR2, srcZ, forS, popF, noEr_ok, noEr_er, yes, List.getElem?_cons_zero, List.getElem?_cons_succ, List.set_cons_zero, List.set_cons_succ, Option.bind_some, Option.bind_none, Option.map_some, Option.map_none, if_true, if_false, Bool.false_eq_true, if_pos, List.map_cons, List.map_nil, add_int, sub_int, negD, notD, boolOf, isD, isntD, isNone, Tg.put, Tg.puts, sh0, sh1, sh2, sh3, sh4, sh5, sh6, sh7, sh8, sh9, sh10, sh11, sh12, sh13, sh14, sh15, sh16, step_nx, step_ct, Nat.add_one_sub_one, Nat.sub_self, Nat.zero_add, Nat.reduceAdd, Nat.reduceSub, ix_c1, i0, lv, ll, leI, ltI, decide_eq_true h1, decide_eq_true h2, decide_eq_false h3]
    by_cases h4 : p.2 < W
    case neg => simp only [F__law_what, f__law_what, sqD, runD, runO, out0, slots0, List.replicate, List.append_nil, List.cons_append, List.nil_append, List.length_cons, List.length_nil, retS, retC, retO, retN, seqS, ifS, asg, asgO, exprS, appS, setS, augS, asgT, raiseS, nxS, op1, op2, op2C, tst, andF, orF, ifF, andB, orB, notB, chF, cst, vr, frz, frC, lstC, tupF, consF, nilF, bltF, bltC, one_d, bind_ok, bind_er, bind_bad, then_ok, then_er, then_bad, opt_some, opt_none, Vl.get, Slot.get, Slot.put, Slot.cont, Slot.lst, Slot.mut, Slot.shal, stables, sh, gets, argD, argB, callF, callO, callC, callB, callW, pick, Pk.of, and_self, boxC, partF, slF, srcF, srcR1, srcR2, srcZ, forS, popF, noEr_ok, noEr_er, yes, List.getElem?_cons_zero, List.getElem?_cons_succ, List.set_cons_zero, List.set_cons_succ, Option.bind_some, Option.bind_none, Option.map_some, Option.map_none, if_true, if_false, Bool.false_eq_true, if_pos, List.map_cons, List.map_nil, add_int, sub_int, negD, notD, boolOf, isD, isntD, isNone, Tg.put, Tg.puts, sh0, sh1, sh2, sh3, sh4, sh5, sh6, sh7, sh8, sh9, sh10, sh11, sh12, sh13, sh14, sh15, sh16, step_nx, step_ct, Nat.add_one_sub_one, Nat.sub_self, Nat.zero_add, Nat.reduceAdd, Nat.reduceSub, ix_c1, i0, lv, ll, leI, ltI, decide_eq_true h1, decide_eq_true h2, decide_eq_true h3, decide_eq_false h4]
    exact absurd ⟨h1, h2, h3, h4⟩ h
def allS (H W : Nat) : List Sq := (List.range (W * H)).map fun (k : Nat) => (((k / W : Nat) : Int), ((k % W : Nat) : Int))
theorem all_eqS {c : Int} {h w : Nat} {p : List (List Int)} (g : Rc c h w p) : F__law_all [chD c p] = .ok (.list ((allS h w).map sqD)) true .none := by
  rw [all_eq g]
  unfold allS
  rw [List.map_map]
  rfl
theorem mem_allS {H W : Nat} {p : Sq} : p ∈ allS H W ↔ isIn H W p = true := by
  rw [isIn_iff]
  unfold allS
  rw [List.mem_map]
  constructor
  · rintro ⟨k, hk, rfl⟩
    have hk := List.mem_range.mp hk
    have w0 : 0 < W := Nat.pos_of_mul_pos_right (a := W) (b := H) (by omega) |> fun _ => by
      rcases Nat.eq_zero_or_pos W with z | z
      · subst z; simp at hk
      · exact z
    have a := Nat.div_lt_of_lt_mul hk
    have b := Nat.mod_lt k w0
    exact ⟨Int.natCast_nonneg _, Int.ofNat_lt.mpr a, Int.natCast_nonneg _, Int.ofNat_lt.mpr b⟩
  · obtain ⟨a, b⟩ := p
    rintro ⟨h1, h2, h3, h4⟩
    obtain ⟨i, rfl⟩ := Int.eq_ofNat_of_zero_le h1
    obtain ⟨j, rfl⟩ := Int.eq_ofNat_of_zero_le h3
    have h2 : i < H := Int.ofNat_lt.mp h2
    have h4 : j < W := Int.ofNat_lt.mp h4
    refine ⟨W * i + j, List.mem_range.mpr ?_, ?_⟩
    · have : W * (i + 1) ≤ W * H := Nat.mul_le_mul (Nat.le_refl W) h2
      rw [Nat.mul_add, Nat.mul_one] at this
      omega
    · rw [Nat.mul_add_div (by omega), Nat.mul_add_mod, Nat.div_eq_of_lt h4, Nat.mod_eq_of_lt h4]
      rfl
theorem allS_len {c : Int} {H W : Nat} {rs : List (List Int)} (g : Rc c H W rs) : (allS H W).length ≤ 81 := by
  unfold allS
  rw [List.length_map, List.length_range]
  exact Nat.le_trans (Nat.mul_le_mul g.w9 g.h9) (by decide)
def isTold (H W : Nat) (rs : List (List Int)) (p : Sq) : Bool := decide (0 ≤ whatI H W rs p)
theorem isTold_in {H W : Nat} {rs : List (List Int)} {p : Sq} (h : isTold H W rs p = true) : isIn H W p = true := by
  rw [isIn_iff]
  refine Classical.byContradiction fun n => ?_
  unfold isTold whatI at h
  rw [if_neg n] at h
  exact absurd (of_decide_eq_true h) (by decide)
theorem told_eq {c : Int} {H W : Nat} {rs : List (List Int)} (g : Rc c H W rs) : F__law_told [chD c rs] = .ok (.list (((allS H W).filter (isTold H W rs)).map sqD)) true .none := by
  have c1 : C__law_told_1 [.val (chD c rs), .un] = .ok (.list (((allS H W).filter (isTold H W rs)).map sqD)) [.val (chD c rs), .un] := by
    refine C_runF _ sqD sqD (isTold H W rs) (allS H W) (srcF_list (ρ1 := [.val (chD c rs), .un]) (by simp only [runD, runO, out0, slots0, List.replicate, List.append_nil, List.cons_append, List.nil_append, List.length_cons, List.length_nil, retS, retC, retO, retN, seqS, ifS, asg, asgO, exprS, appS, setS, augS, asgT, raiseS, nxS, op1, op2, op2C, tst, andF, orF, ifF, andB, orB, notB, chF, cst, vr, frz, frC, lstC, tupF, consF, nilF, bltF, bltC, one_d, bind_ok, bind_er, bind_bad, then_ok, then_er, then_bad, opt_some, opt_none, Vl.get, Slot.get, Slot.put, Slot.cont, Slot.lst, Slot.mut, Slot.shal, stables, sh, gets, argD, argB, callF, callO, callC, callB, callW, pick, Pk.of, and_self, boxC, partF, slF, srcF, srcR1, srcR2, srcZ, forS, popF, noEr_ok, noEr_er, yes, List.getElem?_cons_zero, List.getElem?_cons_succ, List.set_cons_zero, List.set_cons_succ, Option.bind_some, Option.bind_none, Option.map_some, Option.map_none, if_true, if_false, Bool.false_eq_true, if_pos, List.map_cons, List.map_nil, add_int, sub_int, negD, notD, boolOf, isD, isntD, isNone, Tg.put, Tg.puts, sh0, sh1, sh2, sh3, sh4, sh5, sh6, sh7, sh8, sh9, sh10, sh11, sh12, sh13, sh14, sh15, sh16, step_nx, step_ct, Nat.add_one_sub_one, Nat.sub_self, Nat.zero_add, Nat.reduceAdd, Nat.reduceSub, all_eqS g])) rfl (fun p _ => ⟨_, rfl, [.val (chD c rs), .val (sqD p)], ?_, ?_⟩) (by have := allS_len g; omega)
    · simp only [T__law_told_1, runD, runO, out0, slots0, List.replicate, List.append_nil, List.cons_append, List.nil_append, List.length_cons, List.length_nil, retS, retC, retO, retN, seqS, ifS, asg, asgO, exprS, appS, setS, augS, asgT, raiseS, nxS, op1, op2, op2C, tst, andF, orF, ifF, andB, orB, notB, chF, cst, vr, frz, frC, lstC, tupF, consF, nilF, bltF, bltC, one_d, bind_ok, bind_er, bind_bad, then_ok, then_er, then_bad, opt_some, opt_none, Vl.get, Slot.get, Slot.put, Slot.cont, Slot.lst, Slot.mut, Slot.shal, stables, sh, gets, argD, argB, callF, callO, callC, callB, callW, pick, Pk.of, and_self, boxC, partF, slF, srcF, srcR1, srcR2, srcZ, forS, popF, noEr_ok, noEr_er, yes, List.getElem?_cons_zero, List.getElem?_cons_succ, List.set_cons_zero, List.set_cons_succ, Option.bind_some, Option.bind_none, Option.map_some, Option.map_none, if_true, if_false, Bool.false_eq_true, if_pos, List.map_cons, List.map_nil, add_int, sub_int, negD, notD, boolOf, isD, isntD, isNone, Tg.put, Tg.puts, sh0, sh1, sh2, sh3, sh4, sh5, sh6, sh7, sh8, sh9, sh10, sh11, sh12, sh13, sh14, sh15, sh16, step_nx, step_ct, Nat.add_one_sub_one, Nat.sub_self, Nat.zero_add, Nat.reduceAdd, Nat.reduceSub, what_eq g, geI]
      rfl
    · split
      · exact ⟨_, rfl, rfl⟩
      · rfl
  simp only [F__law_told, f__law_told, runD, runO, out0, slots0, List.replicate, List.append_nil, List.cons_append, List.nil_append, List.length_cons, List.length_nil, retS, retC, retO, retN, seqS, ifS, asg, asgO, exprS, appS, setS, augS, asgT, raiseS, nxS, op1, op2, op2C, tst, andF, orF, ifF, andB, orB, notB, chF, cst, vr, frz, frC, lstC, tupF, consF, nilF, bltF, bltC, one_d, bind_ok, bind_er, bind_bad, then_ok, then_er, then_bad, opt_some, opt_none, Vl.get, Slot.get, Slot.put, Slot.cont, Slot.lst, Slot.mut, Slot.shal, stables, sh, gets, argD, argB, callF, callO, callC, callB, callW, pick, Pk.of, and_self, boxC, partF, slF, srcF, srcR1, srcR2, srcZ, forS, popF, noEr_ok, noEr_er, yes, List.getElem?_cons_zero, List.getElem?_cons_succ, List.set_cons_zero, List.set_cons_succ, Option.bind_some, Option.bind_none, Option.map_some, Option.map_none, if_true, if_false, Bool.false_eq_true, if_pos, List.map_cons, List.map_nil, add_int, sub_int, negD, notD, boolOf, isD, isntD, isNone, Tg.put, Tg.puts, sh0, sh1, sh2, sh3, sh4, sh5, sh6, sh7, sh8, sh9, sh10, sh11, sh12, sh13, sh14, sh15, sh16, step_nx, step_ct, Nat.add_one_sub_one, Nat.sub_self, Nat.zero_add, Nat.reduceAdd, Nat.reduceSub, c1]
/-! ### within, value, is_told -/
section
variable {c : Int} {H W : Nat} {rs : List (List Int)}
theorem within_eq (g : Rc c H W rs) (p : Sq) : F_within [chD c rs, sqD p] = .ok (.bool (isIn H W p)) false .none := by
  obtain ⟨i0, lv, ll⟩ := g.w_eq
  unfold isIn
  by_cases h1 : 0 ≤ p.1
  case neg => simp only [F_within, f_within, sqD, runD, runO, out0, slots0, List.replicate, List.append_nil, List.cons_append, List.nil_append, List.length_cons, List.length_nil, retS, retC, retO, retN, seqS, ifS, asg, asgO, exprS, appS, setS, augS, asgT, raiseS, nxS, op1, op2, op2C, tst, andF, orF, ifF, andB, orB, notB, chF, cst, vr, frz, frC, lstC, tupF, consF, nilF, bltF, bltC, one_d, bind_ok, bind_er, bind_bad, then_ok, then_er, then_bad, opt_some, opt_none, Vl.get, Slot.get, Slot.put, Slot.cont, Slot.lst, Slot.mut, Slot.shal, stables, sh, gets, argD, argB, callF, callO, callC, callB, callW, pick, Pk.of, and_self, boxC, partF, slF, srcF, srcR1, srcR2, srcZ, forS, popF, noEr_ok, noEr_er, yes, List.getElem?_cons_zero, List.getElem?_cons_succ, List.set_cons_zero, List.set_cons_succ, Option.bind_some, Option.bind_none, Option.map_some, Option.map_none, if_true, if_false, Bool.false_eq_true, if_pos, List.map_cons, List.map_nil, add_int, sub_int, negD, notD, boolOf, isD, isntD, isNone, Tg.put, Tg.puts, sh0, sh1, sh2, sh3, sh4, sh5, sh6, sh7, sh8, sh9, sh10, sh11, sh12, sh13, sh14, sh15, sh16, step_nx, step_ct, Nat.add_one_sub_one, Nat.sub_self, Nat.zero_add, Nat.reduceAdd, Nat.reduceSub, ix_c1, i0, lv, ll, leI, ltI, decide_eq_false h1, Bool.false_and]
  by_cases h2 : p.1 < H
  case neg => simp only [F_within, f_within, sqD, runD, runO, out0, slots0, List.replicate, List.append_nil, List.cons_append, List.nil_append, List.length_cons, List.length_nil, retS, retC, retO, retN, seqS, ifS, asg, asgO, exprS, appS, setS, augS, asgT, raiseS, nxS, op1, op2, op2C, tst, andF, orF, ifF, andB, orB, notB, chF, cst, vr, frz, frC, lstC, tupF, consF, nilF, bltF, bltC, one_d, bind_ok, bind_er, bind_bad, then_ok, then_er, then_bad, opt_some, opt_none, Vl.get, Slot.get, Slot.put, Slot.cont, Slot.lst, Slot.mut, Slot.shal, stables, sh, gets, argD, argB, callF, callO, callC, callB, callW, pick, Pk.of, and_self, boxC, partF, slF, srcF, srcR1, srcR2, srcZ, forS, popF, noEr_ok, noEr_er, yes, List.getElem?_cons_zero, List.getElem?_cons_succ, List.set_cons_zero, List.set_cons_succ, Option.bind_some, Option.bind_none, Option.map_some, Option.map_none, if_true, if_false, Bool.false_eq_true, if_pos, List.map_cons, List.map_nil, add_int, sub_int, negD, notD, boolOf, isD, isntD, isNone, Tg.put, Tg.puts, sh0, sh1, sh2, sh3, sh4, sh5, sh6, sh7, sh8, sh9, sh10, sh11, sh12, sh13, sh14, sh15, sh16, step_nx, step_ct, Nat.add_one_sub_one, Nat.sub_self, Nat.zero_add, Nat.reduceAdd, Nat.reduceSub, ix_c1, i0, lv, ll, leI, ltI, decide_eq_true h1, decide_eq_false h2, Bool.false_and, Bool.and_false]
  by_cases h3 : 0 ≤ p.2
  case neg => simp only [F_within, f_within, sqD, runD, runO, out0, slots0, List.replicate, List.append_nil, List.cons_append, List.nil_append, List.length_cons, List.length_nil, retS, retC, retO, retN, seqS, ifS, asg, asgO, exprS, appS, setS, augS, asgT, raiseS, nxS, op1, op2, op2C, tst, andF, orF, ifF, andB, orB, notB, chF, cst, vr, frz, frC, lstC, tupF, consF, nilF, bltF, bltC, one_d, bind_ok, bind_er, bind_bad, then_ok, then_er, then_bad, opt_some, opt_none, Vl.get, Slot.get, Slot.put, Slot.cont, Slot.lst, Slot.mut, Slot.shal, stables, sh, gets, argD, argB, callF, callO, callC, callB, callW, pick, Pk.of, and_self, boxC, partF, slF, srcF, srcR1, srcR2, srcZ, forS, popF, noEr_ok, noEr_er, yes, List.getElem?_cons_zero, List.getElem?_cons_succ, List.set_cons_zero, List.set_cons_succ, Option.bind_some, Option.bind_none, Option.map_some, Option.map_none, if_true, if_false, Bool.false_eq_true, if_pos, List.map_cons, List.map_nil, add_int, sub_int, negD, notD, boolOf, isD, isntD, isNone, Tg.put, Tg.puts, sh0, sh1, sh2, sh3, sh4, sh5, sh6, sh7, sh8, sh9, sh10, sh11, sh12, sh13, sh14, sh15, sh16, step_nx, step_ct, Nat.add_one_sub_one, Nat.sub_self, Nat.zero_add, Nat.reduceAdd, Nat.reduceSub, ix_c1, i0, lv, ll, leI, ltI, decide_eq_true h1, decide_eq_true h2, decide_eq_false h3, Bool.false_and, Bool.and_false]
  by_cases h4 : p.2 < W
  case neg => simp only [F_within, f_within, sqD, runD, runO, out0, slots0, List.replicate, List.append_nil, List.cons_append, List.nil_append, List.length_cons, List.length_nil, retS, retC, retO, retN, seqS, ifS, asg, asgO, exprS, appS, setS, augS, asgT, raiseS, nxS, op1, op2, op2C, tst, andF, orF, ifF, andB, orB, notB, chF, cst, vr, frz, frC, lstC, tupF, consF, nilF, bltF, bltC, one_d, bind_ok, bind_er, bind_bad, then_ok, then_er, then_bad, opt_some, opt_none, Vl.get, Slot.get, Slot.put, Slot.cont, Slot.lst, Slot.mut, Slot.shal, stables, sh, gets, argD, argB, callF, callO, callC, callB, callW, pick, Pk.of, and_self, boxC, partF, slF, srcF, srcR1, srcR2, srcZ, forS, popF, noEr_ok, noEr_er, yes, List.getElem?_cons_zero, List.getElem?_cons_succ, List.set_cons_zero, List.set_cons_succ, Option.bind_some, Option.bind_none, Option.map_some, Option.map_none, if_true, if_false, Bool.false_eq_true, if_pos, List.map_cons, List.map_nil, add_int, sub_int, negD, notD, boolOf, isD, isntD, isNone, Tg.put, Tg.puts, sh0, sh1, sh2, sh3, sh4, sh5, sh6, sh7, sh8, sh9, sh10, sh11, sh12, sh13, sh14, sh15, sh16, step_nx, step_ct, Nat.add_one_sub_one, Nat.sub_self, Nat.zero_add, Nat.reduceAdd, Nat.reduceSub, ix_c1, i0, lv, ll, leI, ltI, decide_eq_true h1, decide_eq_true h2, decide_eq_true h3, decide_eq_false h4, Bool.and_false]
  simp only [F_within, f_within, sqD, runD, runO, out0, slots0, List.replicate, List.append_nil, List.cons_append, List.nil_append, List.length_cons, List.length_nil, retS, retC, retO, retN, seqS, ifS, asg, asgO, exprS, appS, setS, augS, asgT, raiseS, nxS, op1, op2, op2C, tst, andF, orF, ifF, andB, orB, notB, chF, cst, vr, frz, frC, lstC, tupF, consF, nilF, bltF, bltC, one_d, bind_ok, bind_er, bind_bad, then_ok, then_er, then_bad, opt_some, opt_none, Vl.get, Slot.get, Slot.put, Slot.cont, Slot.lst, Slot.mut, Slot.shal, stables, sh, gets, argD, argB, callF, callO, callC, callB, callW, pick, Pk.of, and_self, boxC, partF, slF, srcF, srcR1, srcR2, srcZ, forS, popF, noEr_ok, noEr_er, yes, List.getElem?_cons_zero, List.getElem?_cons_succ, List.set_cons_zero, List.set_cons_succ, Option.bind_some, Option.bind_none, Option.map_some, Option.map_none, if_true, if_false, Bool.false_eq_true, if_pos, List.map_cons, List.map_nil, add_int, sub_int, negD, notD, boolOf, isD, isntD, isNone, Tg.put, Tg.puts, sh0, sh1, sh2, sh3, sh4, sh5, sh6, sh7, sh8, sh9, sh10, sh11, sh12, sh13, sh14, sh15, sh16, step_nx, step_ct, Nat.add_one_sub_one, Nat.sub_self, Nat.zero_add, Nat.reduceAdd, Nat.reduceSub, ix_c1, i0, lv, ll, leI, ltI, decide_eq_true h1, decide_eq_true h2, decide_eq_true h3, decide_eq_true h4, Bool.and_self]
theorem value_eq (g : Rc c H W rs) {p : Sq} (h : isIn H W p = true) : F_value [chD c rs, sqD p] = .ok (.int (whatI H W rs p)) false .none := by
  obtain ⟨e1, e2⟩ := g.at_ h
  have x0 : ixD (sqD p) (.int 0) = some (.int p.1) := rfl
  have x1 : ixD (sqD p) (.int 1) = some (.int p.2) := rfl
  unfold whatI
  rw [if_pos (isIn_iff.mp h)]
  simp only [F_value, f_value, runD, runO, out0, slots0, List.replicate, List.append_nil, List.cons_append, List.nil_append, List.length_cons, List.length_nil, retS, retC, retO, retN, seqS, ifS, asg, asgO, exprS, appS, setS, augS, asgT, raiseS, nxS, op1, op2, op2C, tst, andF, orF, ifF, andB, orB, notB, chF, cst, vr, frz, frC, lstC, tupF, consF, nilF, bltF, bltC, one_d, bind_ok, bind_er, bind_bad, then_ok, then_er, then_bad, opt_some, opt_none, Vl.get, Slot.get, Slot.put, Slot.cont, Slot.lst, Slot.mut, Slot.shal, stables, sh, gets, argD, argB, callF, callO, callC, callB, callW, pick, Pk.of, and_self, boxC, partF, slF, srcF, srcR1, srcR2, srcZ, forS, popF, noEr_ok, noEr_er, yes, List.getElem?_cons_zero, List.getElem?_cons_succ, List.set_cons_zero, List.set_cons_succ, Option.bind_some, Option.bind_none, Option.map_some, Option.map_none, if_true, if_false, Bool.false_eq_true, if_pos, List.map_cons, List.map_nil, add_int, sub_int, negD, notD, boolOf, isD, isntD, isNone, Tg.put, Tg.puts, sh0, sh1, sh2, sh3, sh4, sh5, sh6, sh7, sh8, sh9, sh10, sh11, sh12, sh13, sh14, sh15, sh16, step_nx, step_ct, Nat.add_one_sub_one, Nat.sub_self, Nat.zero_add, Nat.reduceAdd, Nat.reduceSub, ix_c1, x0, x1, e1, e2]
theorem is_told_eq (g : Rc c H W rs) (p : Sq) : F_is_told [chD c rs, sqD p] = .ok (.bool (isTold H W rs p)) false .none := by
  cases h : isIn H W p with
  | false =>
    have t : isTold H W rs p = false := by
      cases z : isTold H W rs p with
      | false => rfl
      | true => rw [isTold_in z] at h; cases h
    simp only [F_is_told, f_is_told, runD, runO, out0, slots0, List.replicate, List.append_nil, List.cons_append, List.nil_append, List.length_cons, List.length_nil, retS, retC, retO, retN, seqS, ifS, asg, asgO, exprS, appS, setS, augS, asgT, raiseS, nxS, op1, op2, op2C, tst, andF, orF, ifF, andB, orB, notB, chF, cst, vr, frz, frC, lstC, tupF, consF, nilF, bltF, bltC, one_d, bind_ok, bind_er, bind_bad, then_ok, then_er, then_bad, opt_some, opt_none, Vl.get, Slot.get, Slot.put, Slot.cont, Slot.lst, Slot.mut, Slot.shal, stables, sh, gets, argD, argB, callF, callO, callC, callB, callW, pick, Pk.of, and_self, boxC, partF, slF, srcF, srcR1, srcR2, srcZ, forS, popF, noEr_ok, noEr_er, yes, List.getElem?_cons_zero, List.getElem?_cons_succ, List.set_cons_zero, List.set_cons_succ, Option.bind_some, Option.bind_none, Option.map_some, Option.map_none, if_true, if_false, Bool.false_eq_true, if_pos, List.map_cons, List.map_nil, add_int, sub_int, negD, notD, boolOf, isD, isntD, isNone, Tg.put, Tg.puts, sh0, sh1, sh2, sh3, sh4, sh5, sh6, sh7, sh8, sh9, sh10, sh11, sh12, sh13, sh14, sh15, sh16, step_nx, step_ct, Nat.add_one_sub_one, Nat.sub_self, Nat.zero_add, Nat.reduceAdd, Nat.reduceSub, within_eq g, h, t]
  | true =>
    simp only [F_is_told, f_is_told, runD, runO, out0, slots0, List.replicate, List.append_nil, List.cons_append, List.nil_append, List.length_cons, List.length_nil, retS, retC, retO, retN, seqS, ifS, asg, asgO, exprS, appS, setS, augS, asgT, raiseS, nxS, op1, op2, op2C, tst, andF, orF, ifF, andB, orB, notB, chF, cst, vr, frz, frC, lstC, tupF, consF, nilF, bltF, bltC, one_d, bind_ok, bind_er, bind_bad, then_ok, then_er, then_bad, opt_some, opt_none, Vl.get, Slot.get, Slot.put, Slot.cont, Slot.lst, Slot.mut, Slot.shal, stables, sh, gets, argD, argB, callF, callO, callC, callB, callW, pick, Pk.of, and_self, boxC, partF, slF, srcF, srcR1, srcR2, srcZ, forS, popF, noEr_ok, noEr_er, yes, List.getElem?_cons_zero, List.getElem?_cons_succ, List.set_cons_zero, List.set_cons_succ, Option.bind_some, Option.bind_none, Option.map_some, Option.map_none, if_true, if_false, Bool.false_eq_true, if_pos, List.map_cons, List.map_nil, add_int, sub_int, negD, notD, boolOf, isD, isntD, isNone, Tg.put, Tg.puts, sh0, sh1, sh2, sh3, sh4, sh5, sh6, sh7, sh8, sh9, sh10, sh11, sh12, sh13, sh14, sh15, sh16, step_nx, step_ct, Nat.add_one_sub_one, Nat.sub_self, Nat.zero_add, Nat.reduceAdd, Nat.reduceSub, within_eq g, h, value_eq g h, geI]
    rfl
end
/-! ### lists of squares -/
theorem list_sqs (r : List Sq) (h : r.length ≤ 100000) : listD (.list (r.map sqD)) = some (.list (r.map sqD)) := by
  simp only [listD, sh, short_map (f := sqD) h, if_true]
theorem rev_sqs (r : List Sq) : revA (.list (r.map sqD)) = some (.list (r.reverse.map sqD)) := by
  show some (PyData.list (r.map sqD).reverse) = _
  rw [List.map_reverse]
theorem sm_sqs {n : Nat} (r : List Sq) (h : r.length ≤ 100000) : smOk (n + 3) (.list (r.map sqD)) = true := by
  show (decide ((r.map sqD).length ≤ 100000) && (r.map sqD).all (smOk (n + 2))) = true
  rw [List.length_map, decide_eq_true h, Bool.true_and]
  refine List.all_eq_true.mpr fun d m => ?_
  obtain ⟨p, _, rfl⟩ := List.mem_map.mp m
  rfl
/-! ### sides -/
abbrev toldS (H W : Nat) (rs : List (List Int)) : List Sq := (allS H W).filter (isTold H W rs)
def rightOf (p : Sq) : Sq := (p.1, p.2 + 1)
def belowOf (p : Sq) : Sq := (p.1 + 1, p.2)
def sidesAt (H W : Nat) (rs : List (List Int)) (p : Sq) : List (Sq × Sq) := [(p, rightOf p), (p, belowOf p)].filter fun q => isTold H W rs q.2
def sidesS (H W : Nat) (rs : List (List Int)) : List (Sq × Sq) := (toldS H W rs).flatMap (sidesAt H W rs)
theorem sidesAt_len {H W : Nat} {rs : List (List Int)} {p : Sq} : (sidesAt H W rs p).length ≤ 2 := List.length_filter_le _ _
theorem flat_len {α β : Type} (f : α → List β) (n : Nat) : ∀ l : List α, (∀ x ∈ l, (f x).length ≤ n) → (l.flatMap f).length ≤ n * l.length
  | [], _ => by simp
  | x :: l, h => by
    rw [List.flatMap_cons, List.length_append, List.length_cons, Nat.mul_add, Nat.mul_one]
    have := h x List.mem_cons_self
    have := flat_len f n l fun y m => h y (List.mem_cons_of_mem _ m)
    omega
theorem allS_lt (H W : Nat) : (allS H W).Pairwise fun p q => p.1 < q.1 ∨ (p.1 = q.1 ∧ p.2 < q.2) := by
  unfold allS
  rw [List.pairwise_map]
  refine (List.pairwise_lt_range (n := W * H)).imp fun {a b} h => ?_
  have h1 : a / W ≤ b / W := Nat.div_le_div_right (Nat.le_of_lt h)
  have h2 := Nat.div_add_mod a W
  have h3 := Nat.div_add_mod b W
  rcases Nat.lt_or_eq_of_le h1 with h4 | h4
  · exact .inl (Int.ofNat_lt.mpr h4)
  · refine .inr ⟨by rw [h4], Int.ofNat_lt.mpr ?_⟩
    rw [h4] at h2
    omega
theorem sides_srt (H W : Nat) (rs : List (List Int)) : SrtO.Srtd ltQ (sidesS H W rs) := by
  unfold sidesS
  refine List.pairwise_flatMap.mpr ⟨fun p _ => ?_, ?_⟩
  · refine List.Pairwise.filter _ ?_
    refine List.pairwise_cons.mpr ⟨fun q m => ?_, List.pairwise_singleton _ _⟩
    rw [List.mem_singleton.mp m]
    refine ltQ_no.mpr ?_
    simp only [rightOf, belowOf]
    omega
  · refine ((allS_lt H W).filter _).imp fun {p q} h x mx y my => ?_
    have ex : x.1 = p := by
      have m := (List.mem_filter.mp mx).1
      simp only [List.mem_cons, List.not_mem_nil, or_false] at m
      rcases m with rfl | rfl <;> rfl
    have ey : y.1 = q := by
      have m := (List.mem_filter.mp my).1
      simp only [List.mem_cons, List.not_mem_nil, or_false] at m
      rcases m with rfl | rfl <;> rfl
    refine ltQ_no.mpr ?_
    rw [ex, ey]
    omega
theorem qdL_map : ∀ qs : List Qd, qdL (qs.map sqQ) = some qs
  | [] => rfl
  | q :: qs => by
    rw [List.map_cons]
    unfold qdL
    rw [show qdOf (sqQ q) = some q from rfl, qdL_map qs]
    rfl
theorem sortA_quads {qs : List Qd} (h : SrtO.Srtd ltQ qs) : sortAD (.list (qs.map sqQ)) = some (.list (qs.map sqQ)) := by
  cases qs with
  | nil => rfl
  | cons q qs =>
    have e1 : intsOf ((q :: qs).map sqQ) = none := rfl
    have e2 : prL ((q :: qs).map sqQ) = none := rfl
    unfold sortAD
    simp only [e1, e2, qdL_map, Option.map_some, sortB_id h]
section
variable {c : Int} {H W : Nat} {rs : List (List Int)}
def sideB (tt : EF) : SF := ifS (bF tt) (appS 1 (tupF (consF (vr 2) (consF (vr 3) nilF)))) nxS
def sideL (tt : EF) : SF := forS (.nm 3) (srcF (tupF (consF (tupF (consF (op2 ixD (vr 2) (cst (.int 0))) (consF (op2 addD (op2 ixD (vr 2) (cst (.int 1))) (cst (.int 1))) nilF))) (consF (tupF (consF (op2 addD (op2 ixD (vr 2) (cst (.int 0))) (cst (.int 1))) (consF (op2 ixD (vr 2) (cst (.int 1))) nilF))) nilF)))) (sideB tt)
theorem sideB_eq {tt : EF} (d0 : D) (ht : ∀ s1 s2 q, tt [.val d0, s1, s2, .val (sqD q)] = .ok (.st (.bool (isTold H W rs q))) [.val d0, s1, s2, .val (sqD q)]) (acc : List Qd) (p q : Sq) (hl : acc.length < 100000) :
    sideB tt [.val d0, .own (.list (acc.map sqQ)), .val (sqD p), .val (sqD q)] = .nx [.val d0, .own (.list ((acc ++ [(p, q)].filter fun z => isTold H W rs z.2).map sqQ)), .val (sqD p), .val (sqD q)] := by
  have hl2 : (acc.map sqQ).length < 100000 := by rw [List.length_map]; exact hl
  cases e : isTold H W rs q with
  | false => simp only [sideB, bF, runD, runO, out0, slots0, List.replicate, List.append_nil, List.cons_append, List.nil_append, List.length_cons, List.length_nil, retS, retC, retO, retN, seqS, ifS, asg, asgO, exprS, appS, setS, augS, asgT, raiseS, nxS, op1, op2, op2C, tst, andF, orF, ifF, andB, orB, notB, chF, cst, vr, frz, frC, lstC, tupF, consF, nilF, bltF, bltC, one_d, bind_ok, bind_er, bind_bad, then_ok, then_er, then_bad, opt_some, opt_none, Vl.get, Slot.get, Slot.put, Slot.cont, Slot.lst, Slot.mut, Slot.shal, stables, sh, gets, argD, argB, callF, callO, callC, callB, callW, pick, Pk.of, and_self, boxC, partF, slF, srcF, srcR1, srcR2, srcZ, forS, popF, noEr_ok, noEr_er, yes, List.getElem?_cons_zero, List.getElem?_cons_succ, List.set_cons_zero, List.set_cons_succ, Option.bind_some, Option.bind_none, Option.map_some, Option.map_none, if_true, if_false, Bool.false_eq_true, if_pos, List.map_cons, List.map_nil, add_int, sub_int, negD, notD, boolOf, isD, isntD, isNone, Tg.put, Tg.puts, sh0, sh1, sh2, sh3, sh4, sh5, sh6, sh7, sh8, sh9, sh10, sh11, sh12, sh13, sh14, sh15, sh16, step_nx, step_ct, Nat.add_one_sub_one, Nat.sub_self, Nat.zero_add, Nat.reduceAdd, Nat.reduceSub, ht, e, List.filter_cons, List.filter_nil, List.append_nil]
  | true =>
    have z : [(p, q)].filter (fun z => isTold H W rs z.2) = [(p, q)] := by simp only [List.filter_cons, List.filter_nil, e, if_true]
    rw [z, List.map_append]
    simp only [sideB, bF, runD, runO, out0, slots0, List.replicate, List.append_nil, List.cons_append, List.nil_append, List.length_cons, List.length_nil, retS, retC, retO, retN, seqS, ifS, asg, asgO, exprS, appS, setS, augS, asgT, raiseS, nxS, op1, op2, op2C, tst, andF, orF, ifF, andB, orB, notB, chF, cst, vr, frz, frC, lstC, tupF, consF, nilF, bltF, bltC, one_d, bind_ok, bind_er, bind_bad, then_ok, then_er, then_bad, opt_some, opt_none, Vl.get, Slot.get, Slot.put, Slot.cont, Slot.lst, Slot.mut, Slot.shal, stables, sh, gets, argD, argB, callF, callO, callC, callB, callW, pick, Pk.of, and_self, boxC, partF, slF, srcF, srcR1, srcR2, srcZ, forS, popF, noEr_ok, noEr_er, yes, List.getElem?_cons_zero, List.getElem?_cons_succ, List.set_cons_zero, List.set_cons_succ, Option.bind_some, Option.bind_none, Option.map_some, Option.map_none, if_true, if_false, Bool.false_eq_true, if_pos, List.map_cons, List.map_nil, add_int, sub_int, negD, notD, boolOf, isD, isntD, isNone, Tg.put, Tg.puts, sh0, sh1, sh2, sh3, sh4, sh5, sh6, sh7, sh8, sh9, sh10, sh11, sh12, sh13, sh14, sh15, sh16, step_nx, step_ct, Nat.add_one_sub_one, Nat.sub_self, Nat.zero_add, Nat.reduceAdd, Nat.reduceSub, ht, e, if_pos hl2]
    rfl
theorem sideL_eq {tt : EF} (d0 : D) (ht : ∀ s1 s2 q, tt [.val d0, s1, s2, .val (sqD q)] = .ok (.st (.bool (isTold H W rs q))) [.val d0, s1, s2, .val (sqD q)]) (acc : List Qd) (p : Sq) (hl : acc.length < 99990) (s3 : DL.Slot) :
    ∃ s3', sideL tt [.val d0, .own (.list (acc.map sqQ)), .val (sqD p), s3] = .nx [.val d0, .own (.list ((acc ++ sidesAt H W rs p).map sqQ)), .val (sqD p), s3'] := by
  have b1 := sideB_eq d0 ht acc p (rightOf p) (by omega)
  have b2 := sideB_eq d0 ht (acc ++ [(p, rightOf p)].filter fun z => isTold H W rs z.2) p (belowOf p) (by
    have := List.length_filter_le (fun z : Sq × Sq => isTold H W rs z.2) [(p, rightOf p)]
    rw [List.length_append]
    simp only [List.length_cons, List.length_nil] at this
    omega)
  have ea : acc ++ sidesAt H W rs p = (acc ++ [(p, rightOf p)].filter fun z => isTold H W rs z.2) ++ [(p, belowOf p)].filter fun z => isTold H W rs z.2 := by
    unfold sidesAt
    rw [List.append_assoc, ← List.filter_append]
    rfl
  rw [ea]
  have e1 : srcF (tupF (consF (tupF (consF (op2 ixD (vr 2) (cst (.int 0))) (consF (op2 addD (op2 ixD (vr 2) (cst (.int 1))) (cst (.int 1))) nilF))) (consF (tupF (consF (op2 addD (op2 ixD (vr 2) (cst (.int 0))) (cst (.int 1))) (consF (op2 ixD (vr 2) (cst (.int 1))) nilF))) nilF))) [.val d0, .own (.list (acc.map sqQ)), .val (sqD p), s3]
      = .ok [sqD (rightOf p), sqD (belowOf p)] [.val d0, .own (.list (acc.map sqQ)), .val (sqD p), s3] := by
    have x0 : ixD (sqD p) (.int 0) = some (.int p.1) := rfl
    have x1 : ixD (sqD p) (.int 1) = some (.int p.2) := rfl
    simp only [runD, runO, out0, slots0, List.replicate, List.append_nil, List.cons_append, List.nil_append, List.length_cons, List.length_nil, retS, retC, retO, retN, seqS, ifS, asg, asgO, exprS, appS, setS, augS, asgT, raiseS, nxS, op1, op2, op2C, tst, andF, orF, ifF, andB, orB, notB, chF, cst, vr, frz, frC, lstC, tupF, consF, nilF, bltF, bltC, one_d, bind_ok, bind_er, bind_bad, then_ok, then_er, then_bad, opt_some, opt_none, Vl.get, Slot.get, Slot.put, Slot.cont, Slot.lst, Slot.mut, Slot.shal, stables, sh, gets, argD, argB, callF, callO, callC, callB, callW, pick, Pk.of, and_self, boxC, partF, slF, srcF, srcR1, srcR2, srcZ, forS, popF, noEr_ok, noEr_er, yes, List.getElem?_cons_zero, List.getElem?_cons_succ, List.set_cons_zero, List.set_cons_succ, Option.bind_some, Option.bind_none, Option.map_some, Option.map_none, if_true, if_false, Bool.false_eq_true, if_pos, List.map_cons, List.map_nil, add_int, sub_int, negD, notD, boolOf, isD, isntD, isNone, Tg.put, Tg.puts, sh0, sh1, sh2, sh3, sh4, sh5, sh6, sh7, sh8, sh9, sh10, sh11, sh12, sh13, sh14, sh15, sh16, step_nx, step_ct, Nat.add_one_sub_one, Nat.sub_self, Nat.zero_add, Nat.reduceAdd, Nat.reduceSub, x0, x1]
    rfl
  unfold sideL forS
  rw [e1, then_ok]
  unfold forLoop
  rw [show Tg.put (.nm 3) (sqD (rightOf p)) [.val d0, .own (.list (acc.map sqQ)), .val (sqD p), s3] = some [.val d0, .own (.list (acc.map sqQ)), .val (sqD p), .val (sqD (rightOf p))] from rfl]
  dsimp only
  rw [b1]
  dsimp only
  unfold forLoop
  rw [show ∀ (x : DL.Slot) (s : DL.Slot), Tg.put (.nm 3) (sqD (belowOf p)) [.val d0, x, .val (sqD p), s] = some [.val d0, x, .val (sqD p), .val (sqD (belowOf p))] from fun _ _ => rfl]
  dsimp only
  rw [b2]
  exact ⟨_, rfl⟩
theorem sides_loop {tt : EF} {src : En → O (List D)} (g : Rc c H W rs) (d0 : D) (ht : ∀ s1 s2 q, tt [.val d0, s1, s2, .val (sqD q)] = .ok (.st (.bool (isTold H W rs q))) [.val d0, s1, s2, .val (sqD q)])
    (hs : src [.val d0, .own (.list []), .un, .un] = .ok ((toldS H W rs).map sqD) [.val d0, .own (.list []), .un, .un]) : ∃ s2 s3, forS (.nm 2) src (sideL tt) [.val d0, .own (.list []), .un, .un] = .nx [.val d0, .own (.list ((sidesS H W rs).map sqQ)), s2, s3] := by
  have ln : (toldS H W rs).length ≤ 81 := Nat.le_trans (List.length_filter_le _ _) (allS_len g)
  obtain ⟨ρ', e, s2, s3, h⟩ := for_inv (t := .nm 2) (body := sideL tt) sqD (fun k ρ => ∃ s2 s3, ρ = [.val d0, .own (.list ((((toldS H W rs).take k).flatMap (sidesAt H W rs)).map sqQ)), s2, s3]) (toldS H W rs) [.val d0, .own (.list []), .un, .un] ⟨.un, .un, rfl⟩ fun k p ρ hk ⟨s2, s3, er⟩ => by
    subst er
    refine ⟨_, rfl, ?_⟩
    have l1 : (((toldS H W rs).take k).flatMap (sidesAt H W rs)).length < 99990 := by
      have := flat_len (sidesAt H W rs) 2 ((toldS H W rs).take k) fun _ _ => sidesAt_len
      have : ((toldS H W rs).take k).length ≤ 81 := Nat.le_trans (List.length_take_le' _ _) ln
      omega
    obtain ⟨s3', e⟩ := sideL_eq d0 ht (((toldS H W rs).take k).flatMap (sidesAt H W rs)) p l1 s3
    have e : sideL tt ([.val d0, .own (.list ((((toldS H W rs).take k).flatMap (sidesAt H W rs)).map sqQ)), s2, s3].set 2 (.val (sqD p))) = _ := e
    rw [e]
    refine ⟨.val (sqD p), s3', ?_⟩
    have hk2 := List.getElem?_eq_some_iff.mp hk
    rw [List.take_succ, hk, List.flatMap_append]
    simp only [Option.toList_some, List.flatMap_cons, List.flatMap_nil, List.append_nil]
  subst h
  rw [List.take_length] at e
  refine ⟨s2, s3, ?_⟩
  unfold forS
  rw [hs]
  exact e
end
/-! ### what was refused, as a word -/
theorem kind_rows (a : Addr) (x : Str) : ∃ L : List (Str × Bool), L = [(("clock" : Str), x == ("BadClock" : Str)), (("hour" : Str), x == ("BadHour" : Str)), (("chart" : Str), x == ("BadChart" : Str)), (("square" : Str), x == ("BadSquare" : Str)), (("ring" : Str), x == ("BadRing" : Str)), (("breaks" : Str), x == ("BadBreaks" : Str)), (("prices" : Str), x == ("BadPrices" : Str)), (("fill" : Str), x == ("NoFill" : Str)), (("unlike" : Str), x == ("Unlike" : Str)), (("name" : Str), x == ("BadName" : Str)), (("taken" : Str), x == ("Taken" : Str)), (("full" : Str), x == ("Full" : Str)), (("none" : Str), x == ("NoChart" : Str)), (("day" : Str), x == ("BadDay" : Str)), (("deed" : Str), x == ("BadDeed" : Str)), (("left" : Str), x == ("NothingLeft" : Str)), (("knotted" : Str), x == ("Knotted" : Str)), (("text" : Str), x == ("BadText" : Str)), (("odd" : Str), false)] ∧
    ∃ ρ', f__law_kind a x [.fn a, .un, .un, .un] = (joinF (cst (.str (Str.ofString " "))) (frC C__law_kind_1) [.fn a, .own (.list (L.map fun p => .tuple [.str p.1, .bool p.2])), .un, .un]).then ρ' ∧ ρ' = fun x ρ1 => match x with
      | .st d => .rt d false ρ1
      | _ => .bad := by
  refine ⟨_, rfl, _, ?_, rfl⟩
  simp only [f__law_kind, runD, runO, out0, slots0, List.replicate, List.append_nil, List.cons_append, List.nil_append, List.length_cons, List.length_nil, retS, retC, retO, retN, seqS, ifS, asg, asgO, exprS, appS, setS, augS, asgT, raiseS, nxS, op1, op2, op2C, tst, andF, orF, ifF, andB, orB, notB, chF, cst, vr, frz, frC, lstC, tupF, consF, nilF, bltF, bltC, one_d, bind_ok, bind_er, bind_bad, then_ok, then_er, then_bad, opt_some, opt_none, Vl.get, Slot.get, Slot.put, Slot.cont, Slot.lst, Slot.mut, Slot.shal, stables, sh, gets, argD, argB, callF, callO, callC, callB, callW, pick, Pk.of, and_self, boxC, partF, slF, srcF, srcR1, srcR2, srcZ, forS, popF, noEr_ok, noEr_er, yes, List.getElem?_cons_zero, List.getElem?_cons_succ, List.set_cons_zero, List.set_cons_succ, Option.bind_some, Option.bind_none, Option.map_some, Option.map_none, if_true, if_false, Bool.false_eq_true, if_pos, List.map_cons, List.map_nil, add_int, sub_int, negD, notD, boolOf, isD, isntD, isNone, Tg.put, Tg.puts, sh0, sh1, sh2, sh3, sh4, sh5, sh6, sh7, sh8, sh9, sh10, sh11, sh12, sh13, sh14, sh15, sh16, step_nx, step_ct, Nat.add_one_sub_one, Nat.sub_self, Nat.zero_add, Nat.reduceAdd, Nat.reduceSub, isE, catL, List.cons_append, List.nil_append, Nat.reduceLeDiff, Bool.not_true]
  rfl
theorem kind_comp (a : Addr) (L : List (Str × Bool)) (hl : L.length ≤ 100) : C__law_kind_1 [.fn a, .own (.list (L.map fun p => .tuple [.str p.1, .bool p.2])), .un, .un] = .ok (.list ((L.filter (·.2)).map fun p => .str p.1)) [.fn a, .val (.list (L.map fun p => .tuple [.str p.1, .bool p.2])), .un, .un] := by
  unfold C__law_kind_1
  refine C_runF (t := .tp [.nm 2, .nm 3]) (vs := [2, 3]) (ρ0 := [.fn a, .val (.list (L.map fun p => .tuple [.str p.1, .bool p.2])), .un, .un]) [.fn a, .val (.list (L.map fun p => .tuple [.str p.1, .bool p.2])), .un, .un] (fun p : Str × Bool => .tuple [.str p.1, .bool p.2]) (fun p => .str p.1) (·.2) L ?_ rfl (fun p _ => ⟨[.fn a, .val (.list (L.map fun p => .tuple [.str p.1, .bool p.2])), .val (.str p.1), .val (.bool p.2)], rfl, ?_⟩) (by omega)
  · simp only [srcL, runD, runO, out0, slots0, List.replicate, List.append_nil, List.cons_append, List.nil_append, List.length_cons, List.length_nil, retS, retC, retO, retN, seqS, ifS, asg, asgO, exprS, appS, setS, augS, asgT, raiseS, nxS, op1, op2, op2C, tst, andF, orF, ifF, andB, orB, notB, chF, cst, vr, frz, frC, lstC, tupF, consF, nilF, bltF, bltC, one_d, bind_ok, bind_er, bind_bad, then_ok, then_er, then_bad, opt_some, opt_none, Vl.get, Slot.get, Slot.put, Slot.cont, Slot.lst, Slot.mut, Slot.shal, stables, sh, gets, argD, argB, callF, callO, callC, callB, callW, pick, Pk.of, and_self, boxC, partF, slF, srcF, srcR1, srcR2, srcZ, forS, popF, noEr_ok, noEr_er, yes, List.getElem?_cons_zero, List.getElem?_cons_succ, List.set_cons_zero, List.set_cons_succ, Option.bind_some, Option.bind_none, Option.map_some, Option.map_none, if_true, if_false, Bool.false_eq_true, if_pos, List.map_cons, List.map_nil, add_int, sub_int, negD, notD, boolOf, isD, isntD, isNone, Tg.put, Tg.puts, sh0, sh1, sh2, sh3, sh4, sh5, sh6, sh7, sh8, sh9, sh10, sh11, sh12, sh13, sh14, sh15, sh16, step_nx, step_ct, Nat.add_one_sub_one, Nat.sub_self, Nat.zero_add, Nat.reduceAdd, Nat.reduceSub]
  · refine ⟨_, by simp only [T__law_kind_1, runD, runO, out0, slots0, List.replicate, List.append_nil, List.cons_append, List.nil_append, List.length_cons, List.length_nil, retS, retC, retO, retN, seqS, ifS, asg, asgO, exprS, appS, setS, augS, asgT, raiseS, nxS, op1, op2, op2C, tst, andF, orF, ifF, andB, orB, notB, chF, cst, vr, frz, frC, lstC, tupF, consF, nilF, bltF, bltC, one_d, bind_ok, bind_er, bind_bad, then_ok, then_er, then_bad, opt_some, opt_none, Vl.get, Slot.get, Slot.put, Slot.cont, Slot.lst, Slot.mut, Slot.shal, stables, sh, gets, argD, argB, callF, callO, callC, callB, callW, pick, Pk.of, and_self, boxC, partF, slF, srcF, srcR1, srcR2, srcZ, forS, popF, noEr_ok, noEr_er, yes, List.getElem?_cons_zero, List.getElem?_cons_succ, List.set_cons_zero, List.set_cons_succ, Option.bind_some, Option.bind_none, Option.map_some, Option.map_none, if_true, if_false, Bool.false_eq_true, if_pos, List.map_cons, List.map_nil, add_int, sub_int, negD, notD, boolOf, isD, isntD, isNone, Tg.put, Tg.puts, sh0, sh1, sh2, sh3, sh4, sh5, sh6, sh7, sh8, sh9, sh10, sh11, sh12, sh13, sh14, sh15, sh16, step_nx, step_ct, Nat.add_one_sub_one, Nat.sub_self, Nat.zero_add, Nat.reduceAdd, Nat.reduceSub]; rfl, ?_⟩
    split
    · exact ⟨_, by simp only [E__law_kind_1, runD, runO, out0, slots0, List.replicate, List.append_nil, List.cons_append, List.nil_append, List.length_cons, List.length_nil, retS, retC, retO, retN, seqS, ifS, asg, asgO, exprS, appS, setS, augS, asgT, raiseS, nxS, op1, op2, op2C, tst, andF, orF, ifF, andB, orB, notB, chF, cst, vr, frz, frC, lstC, tupF, consF, nilF, bltF, bltC, one_d, bind_ok, bind_er, bind_bad, then_ok, then_er, then_bad, opt_some, opt_none, Vl.get, Slot.get, Slot.put, Slot.cont, Slot.lst, Slot.mut, Slot.shal, stables, sh, gets, argD, argB, callF, callO, callC, callB, callW, pick, Pk.of, and_self, boxC, partF, slF, srcF, srcR1, srcR2, srcZ, forS, popF, noEr_ok, noEr_er, yes, List.getElem?_cons_zero, List.getElem?_cons_succ, List.set_cons_zero, List.set_cons_succ, Option.bind_some, Option.bind_none, Option.map_some, Option.map_none, if_true, if_false, Bool.false_eq_true, if_pos, List.map_cons, List.map_nil, add_int, sub_int, negD, notD, boolOf, isD, isntD, isNone, Tg.put, Tg.puts, sh0, sh1, sh2, sh3, sh4, sh5, sh6, sh7, sh8, sh9, sh10, sh11, sh12, sh13, sh14, sh15, sh16, step_nx, step_ct, Nat.add_one_sub_one, Nat.sub_self, Nat.zero_add, Nat.reduceAdd, Nat.reduceSub]; rfl, rfl⟩
    · rfl
theorem law_kind_run : ∀ a, ∀ p ∈ kt, ∃ ρ', f__law_kind a p.1 (.fn a :: List.replicate (N__law_kind.length - 1) .un) = .rt (.str p.2) false ρ' := by
  intro a p hp
  obtain ⟨L, eL, ρ', e1, e2⟩ := kind_rows a p.1
  have e0 : (Slot.fn a :: List.replicate (N__law_kind.length - 1) Slot.un) = [.fn a, .un, .un, .un] := rfl
  rw [e0, e1, e2]
  have hl : L.length ≤ 100 := by rw [eL]; exact Nat.le_of_ble_eq_true rfl
  have hj : joinD (.str (Str.ofString " ")) (.list ((L.filter (·.2)).map fun p => .str p.1)) = some (.str p.2) := by
    rw [eL]
    simp only [kt, List.mem_cons, List.not_mem_nil, or_false] at hp
    rcases hp with rfl | rfl | rfl | rfl | rfl | rfl | rfl | rfl | rfl | rfl | rfl | rfl | rfl | rfl | rfl | rfl | rfl | rfl <;> kernel_rfl
  simp only [joinF, runD, runO, out0, slots0, List.replicate, List.append_nil, List.cons_append, List.nil_append, List.length_cons, List.length_nil, retS, retC, retO, retN, seqS, ifS, asg, asgO, exprS, appS, setS, augS, asgT, raiseS, nxS, op1, op2, op2C, tst, andF, orF, ifF, andB, orB, notB, chF, cst, vr, frz, frC, lstC, tupF, consF, nilF, bltF, bltC, one_d, bind_ok, bind_er, bind_bad, then_ok, then_er, then_bad, opt_some, opt_none, Vl.get, Slot.get, Slot.put, Slot.cont, Slot.lst, Slot.mut, Slot.shal, stables, sh, gets, argD, argB, callF, callO, callC, callB, callW, pick, Pk.of, and_self, boxC, partF, slF, srcF, srcR1, srcR2, srcZ, forS, popF, noEr_ok, noEr_er, yes, List.getElem?_cons_zero, List.getElem?_cons_succ, List.set_cons_zero, List.set_cons_succ, Option.bind_some, Option.bind_none, Option.map_some, Option.map_none, if_true, if_false, Bool.false_eq_true, if_pos, List.map_cons, List.map_nil, add_int, sub_int, negD, notD, boolOf, isD, isntD, isNone, Tg.put, Tg.puts, sh0, sh1, sh2, sh3, sh4, sh5, sh6, sh7, sh8, sh9, sh10, sh11, sh12, sh13, sh14, sh15, sh16, step_nx, step_ct, Nat.add_one_sub_one, Nat.sub_self, Nat.zero_add, Nat.reduceAdd, Nat.reduceSub, kind_comp a L hl, hj]
  exact ⟨_, rfl⟩
/-! ### asking -/
/-- what a call that may be refused comes to -/
inductive Ask (f : EF) (ρ : En) (w : Str) : Prop
  | ok (d : D) : f ρ = .ok (.st d) ρ → w = "" → Ask f ρ w
  | er (c : Str) : f ρ = .er ⟨c, []⟩ ρ → kt.lookup c = some w → Ask f ρ w
theorem Ask.eq {f : EF} {ρ : En} {w : Str} (h : Ask f ρ w) : wordF kt f ρ = .ok (.st (.str w)) ρ := by
  rcases h with ⟨d, e, rfl⟩ | ⟨c, e, l⟩
  · simp only [wordF, e]
  · simp only [wordF, e, l, List.isEmpty_nil, if_true]
theorem lam_eq {f : EF} {ρ : En} {i : Nat} {T : List (Addr × Str)} (h : ρ[i]? = some (.tab T)) : lamF i T f ρ = f ρ := by
  simp only [lamF, h, if_true]
theorem strs_ok (l : List Str) (h : l.all PyData.strOk = true) : okN 1 (.list (l.map PyData.str)) = true := List.all_eq_true.mpr fun d m => by
  obtain ⟨j, hj, e⟩ := List.mem_map.mp m
  subst e
  exact List.all_eq_true.mp h j hj
theorem ne_strs (l : List Str) (h : l.all PyData.strOk = true) : neD (.list (l.map PyData.str)) (.list (l.map PyData.str)) = some (.bool false) := ne_self (okN_eq (n := 1) (m := 1) (by decide) (by decide) (strs_ok l h) (strs_ok l h))
theorem ne_strS {x : Str} (h : PyData.strOk x = true) : neD (.str x) (.str x) = some (.bool false) := ne_self (okN_eq (n := 0) (m := 0) (by decide) (by decide) h h)
theorem eq_strS {x : Str} (h : PyData.strOk x = true) : eqD (.str x) (.str x) = some (.bool true) := eq_self (okN_eq (n := 0) (m := 0) (by decide) (by decide) h h)
/-! ### k06 -/
section
variable {c : Int} {H W : Nat} {rs : List (List Int)}
theorem every_eq (g : Rc c H W rs) : F_every_square [chD c rs] = .ok (.list ((allS H W).map sqD)) true .none := by
  obtain ⟨i0, lv, ll⟩ := g.w_eq
  have w9 := g.w9
  have h9 := g.h9
  have w1 := g.w1
  have b : W * H ≤ 81 := Nat.le_trans (Nat.mul_le_mul w9 h9) (by decide)
  have mm : mulD (.int (W : Int)) (.int (H : Int)) = some (.int ((W * H : Nat) : Int)) := by
    rw [mul_l (by omega), Int.natCast_mul]
  have c1 : C_every_square_1 [.val (chD c rs), .val (.int (W : Int)), .un] = .ok (.list ((List.range (W * H)).map fun (k : Nat) => .tuple [.int ((k / W : Nat) : Int), .int ((k % W : Nat) : Int)])) [.val (chD c rs), .val (.int (W : Int)), .un] := by
    refine C_run _ (fun i : Nat => .int (i : Int)) _ (List.range (W * H)) (srcR1_nat (by simp only [runD, runO, out0, slots0, List.replicate, List.append_nil, List.cons_append, List.nil_append, List.length_cons, List.length_nil, retS, retC, retO, retN, seqS, ifS, asg, asgO, exprS, appS, setS, augS, asgT, raiseS, nxS, op1, op2, op2C, tst, andF, orF, ifF, andB, orB, notB, chF, cst, vr, frz, frC, lstC, tupF, consF, nilF, bltF, bltC, one_d, bind_ok, bind_er, bind_bad, then_ok, then_er, then_bad, opt_some, opt_none, Vl.get, Slot.get, Slot.put, Slot.cont, Slot.lst, Slot.mut, Slot.shal, stables, sh, gets, argD, argB, callF, callO, callC, callB, callW, pick, Pk.of, and_self, boxC, partF, slF, srcF, srcR1, srcR2, srcZ, forS, popF, noEr_ok, noEr_er, yes, List.getElem?_cons_zero, List.getElem?_cons_succ, List.set_cons_zero, List.set_cons_succ, Option.bind_some, Option.bind_none, Option.map_some, Option.map_none, if_true, if_false, Bool.false_eq_true, if_pos, List.map_cons, List.map_nil, add_int, sub_int, negD, notD, boolOf, isD, isntD, isNone, Tg.put, Tg.puts, sh0, sh1, sh2, sh3, sh4, sh5, sh6, sh7, sh8, sh9, sh10, sh11, sh12, sh13, sh14, sh15, sh16, step_nx, step_ct, Nat.add_one_sub_one, Nat.sub_self, Nat.zero_add, Nat.reduceAdd, Nat.reduceSub, ix_c1, ll, mm]; rfl) (by omega)) rfl (fun k _ => ⟨_, rfl, [.val (chD c rs), .val (.int (W : Int)), .val (.int (k : Int))], ?_, rfl⟩) (by rw [List.length_range]; omega)
    simp only [E_every_square_1, runD, runO, out0, slots0, List.replicate, List.append_nil, List.cons_append, List.nil_append, List.length_cons, List.length_nil, retS, retC, retO, retN, seqS, ifS, asg, asgO, exprS, appS, setS, augS, asgT, raiseS, nxS, op1, op2, op2C, tst, andF, orF, ifF, andB, orB, notB, chF, cst, vr, frz, frC, lstC, tupF, consF, nilF, bltF, bltC, one_d, bind_ok, bind_er, bind_bad, then_ok, then_er, then_bad, opt_some, opt_none, Vl.get, Slot.get, Slot.put, Slot.cont, Slot.lst, Slot.mut, Slot.shal, stables, sh, gets, argD, argB, callF, callO, callC, callB, callW, pick, Pk.of, and_self, boxC, partF, slF, srcF, srcR1, srcR2, srcZ, forS, popF, noEr_ok, noEr_er, yes, List.getElem?_cons_zero, List.getElem?_cons_succ, List.set_cons_zero, List.set_cons_succ, Option.bind_some, Option.bind_none, Option.map_some, Option.map_none, if_true, if_false, Bool.false_eq_true, if_pos, List.map_cons, List.map_nil, add_int, sub_int, negD, notD, boolOf, isD, isntD, isNone, Tg.put, Tg.puts, sh0, sh1, sh2, sh3, sh4, sh5, sh6, sh7, sh8, sh9, sh10, sh11, sh12, sh13, sh14, sh15, sh16, step_nx, step_ct, Nat.add_one_sub_one, Nat.sub_self, Nat.zero_add, Nat.reduceAdd, Nat.reduceSub, div_ok (divOk_of (show (0 : Int) < W by omega) (by omega)), mod_p (show (0 : Int) < W by omega)]
    rfl
  simp only [F_every_square, f_every_square, runD, runO, out0, slots0, List.replicate, List.append_nil, List.cons_append, List.nil_append, List.length_cons, List.length_nil, retS, retC, retO, retN, seqS, ifS, asg, asgO, exprS, appS, setS, augS, asgT, raiseS, nxS, op1, op2, op2C, tst, andF, orF, ifF, andB, orB, notB, chF, cst, vr, frz, frC, lstC, tupF, consF, nilF, bltF, bltC, one_d, bind_ok, bind_er, bind_bad, then_ok, then_er, then_bad, opt_some, opt_none, Vl.get, Slot.get, Slot.put, Slot.cont, Slot.lst, Slot.mut, Slot.shal, stables, sh, gets, argD, argB, callF, callO, callC, callB, callW, pick, Pk.of, and_self, boxC, partF, slF, srcF, srcR1, srcR2, srcZ, forS, popF, noEr_ok, noEr_er, yes, List.getElem?_cons_zero, List.getElem?_cons_succ, List.set_cons_zero, List.set_cons_succ, Option.bind_some, Option.bind_none, Option.map_some, Option.map_none, if_true, if_false, Bool.false_eq_true, if_pos, List.map_cons, List.map_nil, add_int, sub_int, negD, notD, boolOf, isD, isntD, isNone, Tg.put, Tg.puts, sh0, sh1, sh2, sh3, sh4, sh5, sh6, sh7, sh8, sh9, sh10, sh11, sh12, sh13, sh14, sh15, sh16, step_nx, step_ct, Nat.add_one_sub_one, Nat.sub_self, Nat.zero_add, Nat.reduceAdd, Nat.reduceSub, ix_c1, i0, lv, c1]
  unfold allS
  rw [List.map_map]
  rfl
theorem told_squares_eq (g : Rc c H W rs) : F_told_squares [chD c rs] = .ok (.list ((toldS H W rs).map sqD)) true .none := by
  have c1 : C_told_squares_1 [.val (chD c rs), .un] = .ok (.list ((toldS H W rs).map sqD)) [.val (chD c rs), .un] := by
    refine C_runF _ sqD sqD (isTold H W rs) (allS H W) (srcF_list (ρ1 := [.val (chD c rs), .un]) (by simp only [runD, runO, out0, slots0, List.replicate, List.append_nil, List.cons_append, List.nil_append, List.length_cons, List.length_nil, retS, retC, retO, retN, seqS, ifS, asg, asgO, exprS, appS, setS, augS, asgT, raiseS, nxS, op1, op2, op2C, tst, andF, orF, ifF, andB, orB, notB, chF, cst, vr, frz, frC, lstC, tupF, consF, nilF, bltF, bltC, one_d, bind_ok, bind_er, bind_bad, then_ok, then_er, then_bad, opt_some, opt_none, Vl.get, Slot.get, Slot.put, Slot.cont, Slot.lst, Slot.mut, Slot.shal, stables, sh, gets, argD, argB, callF, callO, callC, callB, callW, pick, Pk.of, and_self, boxC, partF, slF, srcF, srcR1, srcR2, srcZ, forS, popF, noEr_ok, noEr_er, yes, List.getElem?_cons_zero, List.getElem?_cons_succ, List.set_cons_zero, List.set_cons_succ, Option.bind_some, Option.bind_none, Option.map_some, Option.map_none, if_true, if_false, Bool.false_eq_true, if_pos, List.map_cons, List.map_nil, add_int, sub_int, negD, notD, boolOf, isD, isntD, isNone, Tg.put, Tg.puts, sh0, sh1, sh2, sh3, sh4, sh5, sh6, sh7, sh8, sh9, sh10, sh11, sh12, sh13, sh14, sh15, sh16, step_nx, step_ct, Nat.add_one_sub_one, Nat.sub_self, Nat.zero_add, Nat.reduceAdd, Nat.reduceSub, every_eq g])) rfl (fun p m => ⟨_, rfl, [.val (chD c rs), .val (sqD p)], ?_, ?_⟩) (by have := allS_len g; omega)
    · simp only [T_told_squares_1, bF, runD, runO, out0, slots0, List.replicate, List.append_nil, List.cons_append, List.nil_append, List.length_cons, List.length_nil, retS, retC, retO, retN, seqS, ifS, asg, asgO, exprS, appS, setS, augS, asgT, raiseS, nxS, op1, op2, op2C, tst, andF, orF, ifF, andB, orB, notB, chF, cst, vr, frz, frC, lstC, tupF, consF, nilF, bltF, bltC, one_d, bind_ok, bind_er, bind_bad, then_ok, then_er, then_bad, opt_some, opt_none, Vl.get, Slot.get, Slot.put, Slot.cont, Slot.lst, Slot.mut, Slot.shal, stables, sh, gets, argD, argB, callF, callO, callC, callB, callW, pick, Pk.of, and_self, boxC, partF, slF, srcF, srcR1, srcR2, srcZ, forS, popF, noEr_ok, noEr_er, yes, List.getElem?_cons_zero, List.getElem?_cons_succ, List.set_cons_zero, List.set_cons_succ, Option.bind_some, Option.bind_none, Option.map_some, Option.map_none, if_true, if_false, Bool.false_eq_true, if_pos, List.map_cons, List.map_nil, add_int, sub_int, negD, notD, boolOf, isD, isntD, isNone, Tg.put, Tg.puts, sh0, sh1, sh2, sh3, sh4, sh5, sh6, sh7, sh8, sh9, sh10, sh11, sh12, sh13, sh14, sh15, sh16, step_nx, step_ct, Nat.add_one_sub_one, Nat.sub_self, Nat.zero_add, Nat.reduceAdd, Nat.reduceSub, value_eq g (mem_allS.mp m), geI]
      rfl
    · split
      · exact ⟨_, rfl, rfl⟩
      · rfl
  simp only [F_told_squares, f_told_squares, runD, runO, out0, slots0, List.replicate, List.append_nil, List.cons_append, List.nil_append, List.length_cons, List.length_nil, retS, retC, retO, retN, seqS, ifS, asg, asgO, exprS, appS, setS, augS, asgT, raiseS, nxS, op1, op2, op2C, tst, andF, orF, ifF, andB, orB, notB, chF, cst, vr, frz, frC, lstC, tupF, consF, nilF, bltF, bltC, one_d, bind_ok, bind_er, bind_bad, then_ok, then_er, then_bad, opt_some, opt_none, Vl.get, Slot.get, Slot.put, Slot.cont, Slot.lst, Slot.mut, Slot.shal, stables, sh, gets, argD, argB, callF, callO, callC, callB, callW, pick, Pk.of, and_self, boxC, partF, slF, srcF, srcR1, srcR2, srcZ, forS, popF, noEr_ok, noEr_er, yes, List.getElem?_cons_zero, List.getElem?_cons_succ, List.set_cons_zero, List.set_cons_succ, Option.bind_some, Option.bind_none, Option.map_some, Option.map_none, if_true, if_false, Bool.false_eq_true, if_pos, List.map_cons, List.map_nil, add_int, sub_int, negD, notD, boolOf, isD, isntD, isNone, Tg.put, Tg.puts, sh0, sh1, sh2, sh3, sh4, sh5, sh6, sh7, sh8, sh9, sh10, sh11, sh12, sh13, sh14, sh15, sh16, step_nx, step_ct, Nat.add_one_sub_one, Nat.sub_self, Nat.zero_add, Nat.reduceAdd, Nat.reduceSub, c1]
theorem told_ch (g : Rc c H W rs) : F_told [chD c rs] = .ok (.list ((toldS H W rs).map sqD)) true .none := by
  simp only [F_told, f_told, runD, runO, out0, slots0, List.replicate, List.append_nil, List.cons_append, List.nil_append, List.length_cons, List.length_nil, retS, retC, retO, retN, seqS, ifS, asg, asgO, exprS, appS, setS, augS, asgT, raiseS, nxS, op1, op2, op2C, tst, andF, orF, ifF, andB, orB, notB, chF, cst, vr, frz, frC, lstC, tupF, consF, nilF, bltF, bltC, one_d, bind_ok, bind_er, bind_bad, then_ok, then_er, then_bad, opt_some, opt_none, Vl.get, Slot.get, Slot.put, Slot.cont, Slot.lst, Slot.mut, Slot.shal, stables, sh, gets, argD, argB, callF, callO, callC, callB, callW, pick, Pk.of, and_self, boxC, partF, slF, srcF, srcR1, srcR2, srcZ, forS, popF, noEr_ok, noEr_er, yes, List.getElem?_cons_zero, List.getElem?_cons_succ, List.set_cons_zero, List.set_cons_succ, Option.bind_some, Option.bind_none, Option.map_some, Option.map_none, if_true, if_false, Bool.false_eq_true, if_pos, List.map_cons, List.map_nil, add_int, sub_int, negD, notD, boolOf, isD, isntD, isNone, Tg.put, Tg.puts, sh0, sh1, sh2, sh3, sh4, sh5, sh6, sh7, sh8, sh9, sh10, sh11, sh12, sh13, sh14, sh15, sh16, step_nx, step_ct, Nat.add_one_sub_one, Nat.sub_self, Nat.zero_add, Nat.reduceAdd, Nat.reduceSub, need_chart_eq g.is, told_squares_eq g]
theorem sides_of_eq (g : Rc c H W rs) : F_sides_of [chD c rs] = .ok (.list ((sidesS H W rs).map sqQ)) true .none := by
  obtain ⟨s2, s3, e⟩ := sides_loop (tt := callF [.p, .p] F_is_told [] (consF (vr 0) (consF (vr 3) nilF))) (src := srcF (callF [.p] F_told_squares [] (consF (vr 0) nilF))) g (chD c rs) (fun s1 s2 q => by simp only [runD, runO, out0, slots0, List.replicate, List.append_nil, List.cons_append, List.nil_append, List.length_cons, List.length_nil, retS, retC, retO, retN, seqS, ifS, asg, asgO, exprS, appS, setS, augS, asgT, raiseS, nxS, op1, op2, op2C, tst, andF, orF, ifF, andB, orB, notB, chF, cst, vr, frz, frC, lstC, tupF, consF, nilF, bltF, bltC, one_d, bind_ok, bind_er, bind_bad, then_ok, then_er, then_bad, opt_some, opt_none, Vl.get, Slot.get, Slot.put, Slot.cont, Slot.lst, Slot.mut, Slot.shal, stables, sh, gets, argD, argB, callF, callO, callC, callB, callW, pick, Pk.of, and_self, boxC, partF, slF, srcF, srcR1, srcR2, srcZ, forS, popF, noEr_ok, noEr_er, yes, List.getElem?_cons_zero, List.getElem?_cons_succ, List.set_cons_zero, List.set_cons_succ, Option.bind_some, Option.bind_none, Option.map_some, Option.map_none, if_true, if_false, Bool.false_eq_true, if_pos, List.map_cons, List.map_nil, add_int, sub_int, negD, notD, boolOf, isD, isntD, isNone, Tg.put, Tg.puts, sh0, sh1, sh2, sh3, sh4, sh5, sh6, sh7, sh8, sh9, sh10, sh11, sh12, sh13, sh14, sh15, sh16, step_nx, step_ct, Nat.add_one_sub_one, Nat.sub_self, Nat.zero_add, Nat.reduceAdd, Nat.reduceSub, is_told_eq g]) (srcF_list (by simp only [runD, runO, out0, slots0, List.replicate, List.append_nil, List.cons_append, List.nil_append, List.length_cons, List.length_nil, retS, retC, retO, retN, seqS, ifS, asg, asgO, exprS, appS, setS, augS, asgT, raiseS, nxS, op1, op2, op2C, tst, andF, orF, ifF, andB, orB, notB, chF, cst, vr, frz, frC, lstC, tupF, consF, nilF, bltF, bltC, one_d, bind_ok, bind_er, bind_bad, then_ok, then_er, then_bad, opt_some, opt_none, Vl.get, Slot.get, Slot.put, Slot.cont, Slot.lst, Slot.mut, Slot.shal, stables, sh, gets, argD, argB, callF, callO, callC, callB, callW, pick, Pk.of, and_self, boxC, partF, slF, srcF, srcR1, srcR2, srcZ, forS, popF, noEr_ok, noEr_er, yes, List.getElem?_cons_zero, List.getElem?_cons_succ, List.set_cons_zero, List.set_cons_succ, Option.bind_some, Option.bind_none, Option.map_some, Option.map_none, if_true, if_false, Bool.false_eq_true, if_pos, List.map_cons, List.map_nil, add_int, sub_int, negD, notD, boolOf, isD, isntD, isNone, Tg.put, Tg.puts, sh0, sh1, sh2, sh3, sh4, sh5, sh6, sh7, sh8, sh9, sh10, sh11, sh12, sh13, sh14, sh15, sh16, step_nx, step_ct, Nat.add_one_sub_one, Nat.sub_self, Nat.zero_add, Nat.reduceAdd, Nat.reduceSub, told_squares_eq g]))
  have e : L_sides_of_2 [.val (chD c rs), .own (.list []), .un, .un] = _ := e
  simp only [F_sides_of, f_sides_of, runD, runO, out0, slots0, List.replicate, List.append_nil, List.cons_append, List.nil_append, List.length_cons, List.length_nil, retS, retC, retO, retN, seqS, ifS, asg, asgO, exprS, appS, setS, augS, asgT, raiseS, nxS, op1, op2, op2C, tst, andF, orF, ifF, andB, orB, notB, chF, cst, vr, frz, frC, lstC, tupF, consF, nilF, bltF, bltC, one_d, bind_ok, bind_er, bind_bad, then_ok, then_er, then_bad, opt_some, opt_none, Vl.get, Slot.get, Slot.put, Slot.cont, Slot.lst, Slot.mut, Slot.shal, stables, sh, gets, argD, argB, callF, callO, callC, callB, callW, pick, Pk.of, and_self, boxC, partF, slF, srcF, srcR1, srcR2, srcZ, forS, popF, noEr_ok, noEr_er, yes, List.getElem?_cons_zero, List.getElem?_cons_succ, List.set_cons_zero, List.set_cons_succ, Option.bind_some, Option.bind_none, Option.map_some, Option.map_none, if_true, if_false, Bool.false_eq_true, if_pos, List.map_cons, List.map_nil, add_int, sub_int, negD, notD, boolOf, isD, isntD, isNone, Tg.put, Tg.puts, sh0, sh1, sh2, sh3, sh4, sh5, sh6, sh7, sh8, sh9, sh10, sh11, sh12, sh13, sh14, sh15, sh16, step_nx, step_ct, Nat.add_one_sub_one, Nat.sub_self, Nat.zero_add, Nat.reduceAdd, Nat.reduceSub, e]
theorem sides_eq (g : Rc c H W rs) : F_sides [chD c rs] = .ok (.list ((sidesS H W rs).map sqQ)) true .none := by
  simp only [F_sides, f_sides, runD, runO, out0, slots0, List.replicate, List.append_nil, List.cons_append, List.nil_append, List.length_cons, List.length_nil, retS, retC, retO, retN, seqS, ifS, asg, asgO, exprS, appS, setS, augS, asgT, raiseS, nxS, op1, op2, op2C, tst, andF, orF, ifF, andB, orB, notB, chF, cst, vr, frz, frC, lstC, tupF, consF, nilF, bltF, bltC, one_d, bind_ok, bind_er, bind_bad, then_ok, then_er, then_bad, opt_some, opt_none, Vl.get, Slot.get, Slot.put, Slot.cont, Slot.lst, Slot.mut, Slot.shal, stables, sh, gets, argD, argB, callF, callO, callC, callB, callW, pick, Pk.of, and_self, boxC, partF, slF, srcF, srcR1, srcR2, srcZ, forS, popF, noEr_ok, noEr_er, yes, List.getElem?_cons_zero, List.getElem?_cons_succ, List.set_cons_zero, List.set_cons_succ, Option.bind_some, Option.bind_none, Option.map_some, Option.map_none, if_true, if_false, Bool.false_eq_true, if_pos, List.map_cons, List.map_nil, add_int, sub_int, negD, notD, boolOf, isD, isntD, isNone, Tg.put, Tg.puts, sh0, sh1, sh2, sh3, sh4, sh5, sh6, sh7, sh8, sh9, sh10, sh11, sh12, sh13, sh14, sh15, sh16, step_nx, step_ct, Nat.add_one_sub_one, Nat.sub_self, Nat.zero_add, Nat.reduceAdd, Nat.reduceSub, need_chart_eq g.is, sides_of_eq g]
theorem law_sides_eq (g : Rc c H W rs) : F__law_sides [chD c rs] = .ok (.list ((sidesS H W rs).map sqQ)) true .none := by
  obtain ⟨s2, s3, e⟩ := sides_loop (tt := op2 geD (callF [.p, .p] F__law_what [] (consF (vr 0) (consF (vr 3) nilF))) (cst (.int 0))) (src := srcF (callF [.p] F__law_told [] (consF (vr 0) nilF))) g (chD c rs) (fun s1 s2 q => by
    simp only [runD, runO, out0, slots0, List.replicate, List.append_nil, List.cons_append, List.nil_append, List.length_cons, List.length_nil, retS, retC, retO, retN, seqS, ifS, asg, asgO, exprS, appS, setS, augS, asgT, raiseS, nxS, op1, op2, op2C, tst, andF, orF, ifF, andB, orB, notB, chF, cst, vr, frz, frC, lstC, tupF, consF, nilF, bltF, bltC, one_d, bind_ok, bind_er, bind_bad, then_ok, then_er, then_bad, opt_some, opt_none, Vl.get, Slot.get, Slot.put, Slot.cont, Slot.lst, Slot.mut, Slot.shal, stables, sh, gets, argD, argB, callF, callO, callC, callB, callW, pick, Pk.of, and_self, boxC, partF, slF, srcF, srcR1, srcR2, srcZ, forS, popF, noEr_ok, noEr_er, yes, List.getElem?_cons_zero, List.getElem?_cons_succ, List.set_cons_zero, List.set_cons_succ, Option.bind_some, Option.bind_none, Option.map_some, Option.map_none, if_true, if_false, Bool.false_eq_true, if_pos, List.map_cons, List.map_nil, add_int, sub_int, negD, notD, boolOf, isD, isntD, isNone, Tg.put, Tg.puts, sh0, sh1, sh2, sh3, sh4, sh5, sh6, sh7, sh8, sh9, sh10, sh11, sh12, sh13, sh14, sh15, sh16, step_nx, step_ct, Nat.add_one_sub_one, Nat.sub_self, Nat.zero_add, Nat.reduceAdd, Nat.reduceSub, what_eq g, geI]
    rfl) (srcF_list (by simp only [runD, runO, out0, slots0, List.replicate, List.append_nil, List.cons_append, List.nil_append, List.length_cons, List.length_nil, retS, retC, retO, retN, seqS, ifS, asg, asgO, exprS, appS, setS, augS, asgT, raiseS, nxS, op1, op2, op2C, tst, andF, orF, ifF, andB, orB, notB, chF, cst, vr, frz, frC, lstC, tupF, consF, nilF, bltF, bltC, one_d, bind_ok, bind_er, bind_bad, then_ok, then_er, then_bad, opt_some, opt_none, Vl.get, Slot.get, Slot.put, Slot.cont, Slot.lst, Slot.mut, Slot.shal, stables, sh, gets, argD, argB, callF, callO, callC, callB, callW, pick, Pk.of, and_self, boxC, partF, slF, srcF, srcR1, srcR2, srcZ, forS, popF, noEr_ok, noEr_er, yes, List.getElem?_cons_zero, List.getElem?_cons_succ, List.set_cons_zero, List.set_cons_succ, Option.bind_some, Option.bind_none, Option.map_some, Option.map_none, if_true, if_false, Bool.false_eq_true, if_pos, List.map_cons, List.map_nil, add_int, sub_int, negD, notD, boolOf, isD, isntD, isNone, Tg.put, Tg.puts, sh0, sh1, sh2, sh3, sh4, sh5, sh6, sh7, sh8, sh9, sh10, sh11, sh12, sh13, sh14, sh15, sh16, step_nx, step_ct, Nat.add_one_sub_one, Nat.sub_self, Nat.zero_add, Nat.reduceAdd, Nat.reduceSub, told_eq g]))
  have e : L__law_sides_2 [.val (chD c rs), .own (.list []), .un, .un] = _ := e
  simp only [F__law_sides, f__law_sides, runD, runO, out0, slots0, List.replicate, List.append_nil, List.cons_append, List.nil_append, List.length_cons, List.length_nil, retS, retC, retO, retN, seqS, ifS, asg, asgO, exprS, appS, setS, augS, asgT, raiseS, nxS, op1, op2, op2C, tst, andF, orF, ifF, andB, orB, notB, chF, cst, vr, frz, frC, lstC, tupF, consF, nilF, bltF, bltC, one_d, bind_ok, bind_er, bind_bad, then_ok, then_er, then_bad, opt_some, opt_none, Vl.get, Slot.get, Slot.put, Slot.cont, Slot.lst, Slot.mut, Slot.shal, stables, sh, gets, argD, argB, callF, callO, callC, callB, callW, pick, Pk.of, and_self, boxC, partF, slF, srcF, srcR1, srcR2, srcZ, forS, popF, noEr_ok, noEr_er, yes, List.getElem?_cons_zero, List.getElem?_cons_succ, List.set_cons_zero, List.set_cons_succ, Option.bind_some, Option.bind_none, Option.map_some, Option.map_none, if_true, if_false, Bool.false_eq_true, if_pos, List.map_cons, List.map_nil, add_int, sub_int, negD, notD, boolOf, isD, isntD, isNone, Tg.put, Tg.puts, sh0, sh1, sh2, sh3, sh4, sh5, sh6, sh7, sh8, sh9, sh10, sh11, sh12, sh13, sh14, sh15, sh16, step_nx, step_ct, Nat.add_one_sub_one, Nat.sub_self, Nat.zero_add, Nat.reduceAdd, Nat.reduceSub, e, sortA_quads (sides_srt H W rs)]
theorem size_eq (g : Rc c H W rs) : F_size [chD c rs] = .ok (.tuple [.int H, .int W]) false .none := by
  obtain ⟨i0, lv, ll⟩ := g.w_eq
  simp only [F_size, f_size, runD, runO, out0, slots0, List.replicate, List.append_nil, List.cons_append, List.nil_append, List.length_cons, List.length_nil, retS, retC, retO, retN, seqS, ifS, asg, asgO, exprS, appS, setS, augS, asgT, raiseS, nxS, op1, op2, op2C, tst, andF, orF, ifF, andB, orB, notB, chF, cst, vr, frz, frC, lstC, tupF, consF, nilF, bltF, bltC, one_d, bind_ok, bind_er, bind_bad, then_ok, then_er, then_bad, opt_some, opt_none, Vl.get, Slot.get, Slot.put, Slot.cont, Slot.lst, Slot.mut, Slot.shal, stables, sh, gets, argD, argB, callF, callO, callC, callB, callW, pick, Pk.of, and_self, boxC, partF, slF, srcF, srcR1, srcR2, srcZ, forS, popF, noEr_ok, noEr_er, yes, List.getElem?_cons_zero, List.getElem?_cons_succ, List.set_cons_zero, List.set_cons_succ, Option.bind_some, Option.bind_none, Option.map_some, Option.map_none, if_true, if_false, Bool.false_eq_true, if_pos, List.map_cons, List.map_nil, add_int, sub_int, negD, notD, boolOf, isD, isntD, isNone, Tg.put, Tg.puts, sh0, sh1, sh2, sh3, sh4, sh5, sh6, sh7, sh8, sh9, sh10, sh11, sh12, sh13, sh14, sh15, sh16, step_nx, step_ct, Nat.add_one_sub_one, Nat.sub_self, Nat.zero_add, Nat.reduceAdd, Nat.reduceSub, need_chart_eq g.is, ix_c1, i0, lv, ll]
theorem hour_ok (g : Rc c H W rs) {p : Sq} (h : isIn H W p = true) : F_hour_at [chD c rs, sqD p] = .ok (.int (whatI H W rs p)) false .none := by
  have e : F_need_square [chD c rs, sqD p] = .ok .none false .none := by simp only [F_need_square, f_need_square, bF, runD, runO, out0, slots0, List.replicate, List.append_nil, List.cons_append, List.nil_append, List.length_cons, List.length_nil, retS, retC, retO, retN, seqS, ifS, asg, asgO, exprS, appS, setS, augS, asgT, raiseS, nxS, op1, op2, op2C, tst, andF, orF, ifF, andB, orB, notB, chF, cst, vr, frz, frC, lstC, tupF, consF, nilF, bltF, bltC, one_d, bind_ok, bind_er, bind_bad, then_ok, then_er, then_bad, opt_some, opt_none, Vl.get, Slot.get, Slot.put, Slot.cont, Slot.lst, Slot.mut, Slot.shal, stables, sh, gets, argD, argB, callF, callO, callC, callB, callW, pick, Pk.of, and_self, boxC, partF, slF, srcF, srcR1, srcR2, srcZ, forS, popF, noEr_ok, noEr_er, yes, List.getElem?_cons_zero, List.getElem?_cons_succ, List.set_cons_zero, List.set_cons_succ, Option.bind_some, Option.bind_none, Option.map_some, Option.map_none, if_true, if_false, Bool.false_eq_true, if_pos, List.map_cons, List.map_nil, add_int, sub_int, negD, notD, boolOf, isD, isntD, isNone, Tg.put, Tg.puts, sh0, sh1, sh2, sh3, sh4, sh5, sh6, sh7, sh8, sh9, sh10, sh11, sh12, sh13, sh14, sh15, sh16, step_nx, step_ct, Nat.add_one_sub_one, Nat.sub_self, Nat.zero_add, Nat.reduceAdd, Nat.reduceSub, within_eq g, h, Bool.not_true]
  simp only [F_hour_at, f_hour_at, runD, runO, out0, slots0, List.replicate, List.append_nil, List.cons_append, List.nil_append, List.length_cons, List.length_nil, retS, retC, retO, retN, seqS, ifS, asg, asgO, exprS, appS, setS, augS, asgT, raiseS, nxS, op1, op2, op2C, tst, andF, orF, ifF, andB, orB, notB, chF, cst, vr, frz, frC, lstC, tupF, consF, nilF, bltF, bltC, one_d, bind_ok, bind_er, bind_bad, then_ok, then_er, then_bad, opt_some, opt_none, Vl.get, Slot.get, Slot.put, Slot.cont, Slot.lst, Slot.mut, Slot.shal, stables, sh, gets, argD, argB, callF, callO, callC, callB, callW, pick, Pk.of, and_self, boxC, partF, slF, srcF, srcR1, srcR2, srcZ, forS, popF, noEr_ok, noEr_er, yes, List.getElem?_cons_zero, List.getElem?_cons_succ, List.set_cons_zero, List.set_cons_succ, Option.bind_some, Option.bind_none, Option.map_some, Option.map_none, if_true, if_false, Bool.false_eq_true, if_pos, List.map_cons, List.map_nil, add_int, sub_int, negD, notD, boolOf, isD, isntD, isNone, Tg.put, Tg.puts, sh0, sh1, sh2, sh3, sh4, sh5, sh6, sh7, sh8, sh9, sh10, sh11, sh12, sh13, sh14, sh15, sh16, step_nx, step_ct, Nat.add_one_sub_one, Nat.sub_self, Nat.zero_add, Nat.reduceAdd, Nat.reduceSub, need_chart_eq g.is, e, value_eq g h]
theorem hour_er (g : Rc c H W rs) {p : Sq} (h : isIn H W p = false) : F_hour_at [chD c rs, sqD p] = .er ⟨"BadSquare", []⟩ .none := by
  have e : F_need_square [chD c rs, sqD p] = .er ⟨"BadSquare", []⟩ .none := by simp only [F_need_square, f_need_square, bF, runD, runO, out0, slots0, List.replicate, List.append_nil, List.cons_append, List.nil_append, List.length_cons, List.length_nil, retS, retC, retO, retN, seqS, ifS, asg, asgO, exprS, appS, setS, augS, asgT, raiseS, nxS, op1, op2, op2C, tst, andF, orF, ifF, andB, orB, notB, chF, cst, vr, frz, frC, lstC, tupF, consF, nilF, bltF, bltC, one_d, bind_ok, bind_er, bind_bad, then_ok, then_er, then_bad, opt_some, opt_none, Vl.get, Slot.get, Slot.put, Slot.cont, Slot.lst, Slot.mut, Slot.shal, stables, sh, gets, argD, argB, callF, callO, callC, callB, callW, pick, Pk.of, and_self, boxC, partF, slF, srcF, srcR1, srcR2, srcZ, forS, popF, noEr_ok, noEr_er, yes, List.getElem?_cons_zero, List.getElem?_cons_succ, List.set_cons_zero, List.set_cons_succ, Option.bind_some, Option.bind_none, Option.map_some, Option.map_none, if_true, if_false, Bool.false_eq_true, if_pos, List.map_cons, List.map_nil, add_int, sub_int, negD, notD, boolOf, isD, isntD, isNone, Tg.put, Tg.puts, sh0, sh1, sh2, sh3, sh4, sh5, sh6, sh7, sh8, sh9, sh10, sh11, sh12, sh13, sh14, sh15, sh16, step_nx, step_ct, Nat.add_one_sub_one, Nat.sub_self, Nat.zero_add, Nat.reduceAdd, Nat.reduceSub, within_eq g, h, Bool.not_false]
  simp only [F_hour_at, f_hour_at, runD, runO, out0, slots0, List.replicate, List.append_nil, List.cons_append, List.nil_append, List.length_cons, List.length_nil, retS, retC, retO, retN, seqS, ifS, asg, asgO, exprS, appS, setS, augS, asgT, raiseS, nxS, op1, op2, op2C, tst, andF, orF, ifF, andB, orB, notB, chF, cst, vr, frz, frC, lstC, tupF, consF, nilF, bltF, bltC, one_d, bind_ok, bind_er, bind_bad, then_ok, then_er, then_bad, opt_some, opt_none, Vl.get, Slot.get, Slot.put, Slot.cont, Slot.lst, Slot.mut, Slot.shal, stables, sh, gets, argD, argB, callF, callO, callC, callB, callW, pick, Pk.of, and_self, boxC, partF, slF, srcF, srcR1, srcR2, srcZ, forS, popF, noEr_ok, noEr_er, yes, List.getElem?_cons_zero, List.getElem?_cons_succ, List.set_cons_zero, List.set_cons_succ, Option.bind_some, Option.bind_none, Option.map_some, Option.map_none, if_true, if_false, Bool.false_eq_true, if_pos, List.map_cons, List.map_nil, add_int, sub_int, negD, notD, boolOf, isD, isntD, isNone, Tg.put, Tg.puts, sh0, sh1, sh2, sh3, sh4, sh5, sh6, sh7, sh8, sh9, sh10, sh11, sh12, sh13, sh14, sh15, sh16, step_nx, step_ct, Nat.add_one_sub_one, Nat.sub_self, Nat.zero_add, Nat.reduceAdd, Nat.reduceSub, need_chart_eq g.is, e]
end
theorem revR_ix {i k : Nat} {ds cs : List D} {ρ : En} (h : ρ[i]? = some (.tre (.list ds))) (hk : ds[k]? = some (bx (.list cs))) :
    revR i (ixR i (fun _ => some []) (fun _ => some (.int (k : Int)))) ρ = .nx (ρ.set i (.tre (.list (ds.set k (bx (.list cs.reverse)))))) := by
  have hk1 := (List.getElem?_eq_some_iff.mp hk).1
  have e1 : ixN ds.length (k : Int) = some k := by unfold ixN; simp; omega
  have e2 : ixR i (fun _ => some []) (fun _ => some (.int (k : Int))) ρ = some [k] := by
    unfold ixR
    rw [h]
    simp only [Option.bind_some, Slot.tree, getIn, e1, hk, unbox_bx, List.nil_append]
  unfold revR
  rw [h]
  simp only [Slot.tree, e2, getIn, kids, hk, Option.bind_some, unbox_bx, Slot.putT, setIn, withKids]
theorem stripA_id : ∀ {ds : List D}, (∀ d ∈ ds, DL.strip d = d) → stripA ds = ds
  | [], _ => by unfold stripA; rfl
  | d :: ds, h => by
    unfold stripA
    rw [h d List.mem_cons_self, stripA_id fun e m => h e (List.mem_cons_of_mem _ m)]
theorem strip_tup (ds : List D) : DL.strip (.tuple ds) = .tuple ds := by unfold DL.strip; rfl
theorem strip_bxl {ds : List D} (h : ∀ d ∈ ds, DL.strip d = d) : DL.strip (bx (.list ds)) = .list ds := by
  unfold bx DL.strip
  rw [stripA_id h]
theorem strip_pair {as bs : List D} (ha : ∀ d ∈ as, DL.strip d = d) (hb : ∀ d ∈ bs, DL.strip d = d) : DL.strip (bx (.list [bx (.list as), bx (.list bs)])) = .list [.list as, .list bs] := by
  conv => lhs; unfold bx DL.strip
  unfold stripA stripA stripA
  have e1 := strip_bxl ha
  have e2 := strip_bxl hb
  unfold bx at e1 e2
  rw [e1, e2]
theorem sm_quads {n : Nat} (r : List Qd) (h : r.length ≤ 100000) : smOk (n + 4) (.list (r.map sqQ)) = true := by
  show (decide ((r.map sqQ).length ≤ 100000) && (r.map sqQ).all (smOk (n + 3))) = true
  rw [List.length_map, decide_eq_true h, Bool.true_and]
  refine List.all_eq_true.mpr fun d m => ?_
  obtain ⟨p, _, rfl⟩ := List.mem_map.mp m
  rfl
theorem kt_square : kt.lookup ("BadSquare" : Str) = some ("square" : Str) := by decide +kernel
abbrev dueD (H W : Nat) (rs : List (List Int)) : D := .list [.list ((toldS H W rs).map sqD), .list ((sidesS H W rs).map sqQ)]
abbrev sL (T : List (Addr × Str)) (a : Addr) (b : Box) (c : Int) (H W : Nat) (rs : List (List Int)) (s4 s5 s6 : DL.Slot) : En := [.fn a, .own (bD b), .val (chD c rs), .val (dueD H W rs), s4, s5, s6, .tab T]
theorem turn_ok {T : List (Addr × Str)} {a : Addr} {b : Box} {c : Int} {H W : Nat} {rs : List (List Int)} (g : Rc c H W rs) (s4 s5 s6 : DL.Slot) : ∃ s5', B_law_1 (sL T a b c H W rs s4 s5 s6) = .nx (sL T a b c H W rs s4 s5' s6) := by
  have ln : (toldS H W rs).length ≤ 81 := Nat.le_trans (List.length_filter_le _ _) (allS_len g)
  have ls : (sidesS H W rs).length ≤ 162 := by
    have := flat_len (sidesAt H W rs) 2 (toldS H W rs) fun _ _ => sidesAt_len
    unfold sidesS
    omega
  have e1 : asgTr 5 (lstT (consT (callC [.p] F_told [] (consF (vr 2) nilF)) (consT (callC [.p] F_sides [] (consF (vr 2) nilF)) nilT))) (sL T a b c H W rs s4 s5 s6) = .nx (sL T a b c H W rs s4 (.tre (.list [bx (.list ((toldS H W rs).map sqD)), bx (.list ((sidesS H W rs).map sqQ))])) s6) := by
    simp only [asgTr, lstT, consT, nilT, sL, runD, runO, out0, slots0, List.replicate, List.append_nil, List.cons_append, List.nil_append, List.length_cons, List.length_nil, retS, retC, retO, retN, seqS, ifS, asg, asgO, exprS, appS, setS, augS, asgT, raiseS, nxS, op1, op2, op2C, tst, andF, orF, ifF, andB, orB, notB, chF, cst, vr, frz, frC, lstC, tupF, consF, nilF, bltF, bltC, one_d, bind_ok, bind_er, bind_bad, then_ok, then_er, then_bad, opt_some, opt_none, Vl.get, Slot.get, Slot.put, Slot.cont, Slot.lst, Slot.mut, Slot.shal, stables, sh, gets, argD, argB, callF, callO, callC, callB, callW, pick, Pk.of, and_self, boxC, partF, slF, srcF, srcR1, srcR2, srcZ, forS, popF, noEr_ok, noEr_er, yes, List.getElem?_cons_zero, List.getElem?_cons_succ, List.set_cons_zero, List.set_cons_succ, Option.bind_some, Option.bind_none, Option.map_some, Option.map_none, if_true, if_false, Bool.false_eq_true, if_pos, List.map_cons, List.map_nil, add_int, sub_int, negD, notD, boolOf, isD, isntD, isNone, Tg.put, Tg.puts, sh0, sh1, sh2, sh3, sh4, sh5, sh6, sh7, sh8, sh9, sh10, sh11, sh12, sh13, sh14, sh15, sh16, step_nx, step_ct, Nat.add_one_sub_one, Nat.sub_self, Nat.zero_add, Nat.reduceAdd, Nat.reduceSub, told_ch g, sides_eq g]
  have es : DL.strip (bx (.list [bx (.list ((toldS H W rs).map sqD)), bx (.list ((sidesS H W rs).map sqQ))])) = dueD H W rs := strip_pair (fun d m => by
    obtain ⟨p, _, rfl⟩ := List.mem_map.mp m
    exact strip_tup _) fun d m => by
    obtain ⟨p, _, rfl⟩ := List.mem_map.mp m
    exact strip_tup _
  have sm : smOk 16 (dueD H W rs) = true := by
    have a1 := sm_sqs (n := 12) (toldS H W rs) (by omega)
    have a2 := sm_quads (n := 11) (sidesS H W rs) (by omega)
    show (decide (2 ≤ 100000) && ([PyData.list ((toldS H W rs).map sqD), .list ((sidesS H W rs).map sqQ)].all (smOk 15))) = true
    rw [List.all_cons, List.all_cons, List.all_nil, a1, a2]
    rfl
  have e2 := same_self 16 _ sm
  have e3 : F__law_same 16 [.tuple [.int H, .int W], .tuple [.int H, .int W]] = .ok (.bool true) false .none := same_self 16 _ rfl
  obtain ⟨i0, lv, ll⟩ := g.w_eq
  have t1 : callT [.p, .p] (F__law_same 16) [] (consF (vr 5) (consF (vr 3) nilF)) (sL T a b c H W rs s4 (.tre (.list [bx (.list ((toldS H W rs).map sqD)), bx (.list ((sidesS H W rs).map sqQ))])) s6) = .ok (.st (.bool true)) (sL T a b c H W rs s4 (.tre (.list [bx (.list ((toldS H W rs).map sqD)), bx (.list ((sidesS H W rs).map sqQ))])) s6) := by
    simp only [callT, argT, Vl.getT, Slot.getT, sL, runD, runO, out0, slots0, List.replicate, List.append_nil, List.cons_append, List.nil_append, List.length_cons, List.length_nil, retS, retC, retO, retN, seqS, ifS, asg, asgO, exprS, appS, setS, augS, asgT, raiseS, nxS, op1, op2, op2C, tst, andF, orF, ifF, andB, orB, notB, chF, cst, vr, frz, frC, lstC, tupF, consF, nilF, bltF, bltC, one_d, bind_ok, bind_er, bind_bad, then_ok, then_er, then_bad, opt_some, opt_none, Vl.get, Slot.get, Slot.put, Slot.cont, Slot.lst, Slot.mut, Slot.shal, stables, sh, gets, argD, argB, callF, callO, callC, callB, callW, pick, Pk.of, and_self, boxC, partF, slF, srcF, srcR1, srcR2, srcZ, forS, popF, noEr_ok, noEr_er, yes, List.getElem?_cons_zero, List.getElem?_cons_succ, List.set_cons_zero, List.set_cons_succ, Option.bind_some, Option.bind_none, Option.map_some, Option.map_none, if_true, if_false, Bool.false_eq_true, if_pos, List.map_cons, List.map_nil, add_int, sub_int, negD, notD, boolOf, isD, isntD, isNone, Tg.put, Tg.puts, sh0, sh1, sh2, sh3, sh4, sh5, sh6, sh7, sh8, sh9, sh10, sh11, sh12, sh13, sh14, sh15, sh16, step_nx, step_ct, Nat.add_one_sub_one, Nat.sub_self, Nat.zero_add, Nat.reduceAdd, Nat.reduceSub, es, e2, flat]
  have e4 : ifS (orB (notB (bF (callT [.p, .p] (F__law_same 16) [] (consF (vr 5) (consF (vr 3) nilF))))) (notB (bF (callF [.p, .p] (F__law_same 16) [] (consF (callF [.p] F_size [] (consF (vr 2) nilF)) (consF (tupF (consF (bltF (one lenD) (consF (op2 ixD (vr 2) (cst (.int 1))) nilF)) (consF (bltF (one lenD) (consF (op2 ixD (op2 ixD (vr 2) (cst (.int 1))) (cst (.int 0))) nilF)) nilF))) nilF)))))) (retS (cst (.bool false))) nxS
      (sL T a b c H W rs s4 (.tre (.list [bx (.list ((toldS H W rs).map sqD)), bx (.list ((sidesS H W rs).map sqQ))])) s6) = .nx (sL T a b c H W rs s4 (.tre (.list [bx (.list ((toldS H W rs).map sqD)), bx (.list ((sidesS H W rs).map sqQ))])) s6) := by
    simp only [ifS, orB, notB, bF, t1, runD, runO, out0, slots0, List.replicate, List.append_nil, List.cons_append, List.nil_append, List.length_cons, List.length_nil, retS, retC, retO, retN, seqS, ifS, asg, asgO, exprS, appS, setS, augS, asgT, raiseS, nxS, op1, op2, op2C, tst, andF, orF, ifF, andB, orB, notB, chF, cst, vr, frz, frC, lstC, tupF, consF, nilF, bltF, bltC, one_d, bind_ok, bind_er, bind_bad, then_ok, then_er, then_bad, opt_some, opt_none, Vl.get, Slot.get, Slot.put, Slot.cont, Slot.lst, Slot.mut, Slot.shal, stables, sh, gets, argD, argB, callF, callO, callC, callB, callW, pick, Pk.of, and_self, boxC, partF, slF, srcF, srcR1, srcR2, srcZ, forS, popF, noEr_ok, noEr_er, yes, List.getElem?_cons_zero, List.getElem?_cons_succ, List.set_cons_zero, List.set_cons_succ, Option.bind_some, Option.bind_none, Option.map_some, Option.map_none, if_true, if_false, Bool.false_eq_true, if_pos, List.map_cons, List.map_nil, add_int, sub_int, negD, notD, boolOf, isD, isntD, isNone, Tg.put, Tg.puts, sh0, sh1, sh2, sh3, sh4, sh5, sh6, sh7, sh8, sh9, sh10, sh11, sh12, sh13, sh14, sh15, sh16, step_nx, step_ct, Nat.add_one_sub_one, Nat.sub_self, Nat.zero_add, Nat.reduceAdd, Nat.reduceSub, size_eq g, ix_c1, i0, lv, ll, e3, Bool.not_true]
  have e5 := revR_ix (i := 5) (k := 0) (ds := [bx (.list ((toldS H W rs).map sqD)), bx (.list ((sidesS H W rs).map sqQ))]) (ρ := sL T a b c H W rs s4 (.tre (.list [bx (.list ((toldS H W rs).map sqD)), bx (.list ((sidesS H W rs).map sqQ))])) s6) rfl rfl
  have e5 : revR 5 (ixR 5 (fun _ => some []) (fun _ => some (.int 0))) _ = _ := e5
  have e6 := appR_ix (i := 5) (k := 1) (fa := cst (.int 0)) (z := .int 0) (ds := [bx (.list ((toldS H W rs).map sqD).reverse), bx (.list ((sidesS H W rs).map sqQ))]) (cs := (sidesS H W rs).map sqQ) (ρ := sL T a b c H W rs s4 (.tre (.list [bx (.list ((toldS H W rs).map sqD).reverse), bx (.list ((sidesS H W rs).map sqQ))])) s6) (ρ1 := sL T a b c H W rs s4 .un s6) rfl rfl (by rw [List.length_map]; omega) rfl
  have e6 : appR 5 (ixR 5 (fun _ => some []) (fun _ => some (.int 1))) (cst (.int 0)) (List.set (sL T a b c H W rs s4 (.tre (.list [bx (.list ((toldS H W rs).map sqD)), bx (.list ((sidesS H W rs).map sqQ))])) s6) 5 _) = _ := e6
  refine ⟨.tre (.list [bx (.list ((toldS H W rs).map sqD).reverse), bx (.list ((sidesS H W rs).map sqQ ++ [.int 0]))]), ?_⟩
  unfold B_law_1 seqS
  rw [e1]
  dsimp only
  rw [e4]
  dsimp only
  rw [e5]
  exact e6
theorem ask1 {T : List (Addr × Str)} {a : Addr} {b : Box} {c : Int} {H W : Nat} {rs : List (List Int)} (g : Rc c H W rs) (s4 s5 : DL.Slot) {p : Sq} (h : isIn H W p = false) : Ask E_law_1 (sL T a b c H W rs s4 s5 (.val (sqD p))) "square" :=
  .er "BadSquare" (by simp only [E_law_1, sL, runD, runO, out0, slots0, List.replicate, List.append_nil, List.cons_append, List.nil_append, List.length_cons, List.length_nil, retS, retC, retO, retN, seqS, ifS, asg, asgO, exprS, appS, setS, augS, asgT, raiseS, nxS, op1, op2, op2C, tst, andF, orF, ifF, andB, orB, notB, chF, cst, vr, frz, frC, lstC, tupF, consF, nilF, bltF, bltC, one_d, bind_ok, bind_er, bind_bad, then_ok, then_er, then_bad, opt_some, opt_none, Vl.get, Slot.get, Slot.put, Slot.cont, Slot.lst, Slot.mut, Slot.shal, stables, sh, gets, argD, argB, callF, callO, callC, callB, callW, pick, Pk.of, and_self, boxC, partF, slF, srcF, srcR1, srcR2, srcZ, forS, popF, noEr_ok, noEr_er, yes, List.getElem?_cons_zero, List.getElem?_cons_succ, List.set_cons_zero, List.set_cons_succ, Option.bind_some, Option.bind_none, Option.map_some, Option.map_none, if_true, if_false, Bool.false_eq_true, if_pos, List.map_cons, List.map_nil, add_int, sub_int, negD, notD, boolOf, isD, isntD, isNone, Tg.put, Tg.puts, sh0, sh1, sh2, sh3, sh4, sh5, sh6, sh7, sh8, sh9, sh10, sh11, sh12, sh13, sh14, sh15, sh16, step_nx, step_ct, Nat.add_one_sub_one, Nat.sub_self, Nat.zero_add, Nat.reduceAdd, Nat.reduceSub, hour_er g h]) kt_square
theorem law_true (T : List (Addr × Str)) (a : Addr) (ns : List Int) (h : ns.length ≤ 63) (hb : ∀ z ∈ ns, Builtin.Int.intBits z ≤ 1048576) : ∃ ρ1, f_law T a ns ((.fn a :: List.replicate (N_law.length - 2) .un) ++ [.tab T]) = .rt (.bool true) false ρ1 := by
  have e0 : ((Slot.fn a :: List.replicate (N_law.length - 2) .un) ++ [.tab T]) = [.fn a, .un, .un, .un, .un, .un, .un, .tab T] := rfl
  rw [e0]
  obtain ⟨c, W, rs, b1, ech, hch⟩ := chart_run (box0 ns) (most := 9) (unt := 2) (by decide) (by decide)
  have g := hch.rc (by decide)
  generalize rs.length = H at g
  unfold f_law
  refine Rt.seq (P := fun ρ => ρ = [.fn a, .own (bD (box0 ns)), .un, .un, .un, .un, .un, .tab T]) ⟨_, box_start a ns _, rfl⟩ ?_
  rintro ρ rfl
  refine Rt.seq (P := fun ρ => ρ = [.fn a, .own (bD b1), .val (chD c rs), .un, .un, .un, .un, .tab T]) ⟨_, by simp only [runD, runO, out0, slots0, List.replicate, List.append_nil, List.cons_append, List.nil_append, List.length_cons, List.length_nil, retS, retC, retO, retN, seqS, ifS, asg, asgO, exprS, appS, setS, augS, asgT, raiseS, nxS, op1, op2, op2C, tst, andF, orF, ifF, andB, orB, notB, chF, cst, vr, frz, frC, lstC, tupF, consF, nilF, bltF, bltC, one_d, bind_ok, bind_er, bind_bad, then_ok, then_er, then_bad, opt_some, opt_none, Vl.get, Slot.get, Slot.put, Slot.cont, Slot.lst, Slot.mut, Slot.shal, stables, sh, gets, argD, argB, callF, callO, callC, callB, callW, pick, Pk.of, and_self, boxC, partF, slF, srcF, srcR1, srcR2, srcZ, forS, popF, noEr_ok, noEr_er, yes, List.getElem?_cons_zero, List.getElem?_cons_succ, List.set_cons_zero, List.set_cons_succ, Option.bind_some, Option.bind_none, Option.map_some, Option.map_none, if_true, if_false, Bool.false_eq_true, if_pos, List.map_cons, List.map_nil, add_int, sub_int, negD, notD, boolOf, isD, isntD, isNone, Tg.put, Tg.puts, sh0, sh1, sh2, sh3, sh4, sh5, sh6, sh7, sh8, sh9, sh10, sh11, sh12, sh13, sh14, sh15, sh16, step_nx, step_ct, Nat.add_one_sub_one, Nat.sub_self, Nat.zero_add, Nat.reduceAdd, Nat.reduceSub, ech], rfl⟩ ?_
  rintro ρ rfl
  refine Rt.seq (P := fun ρ => ρ = sL T a b1 c H W rs .un .un .un) ⟨_, by simp only [runD, runO, out0, slots0, List.replicate, List.append_nil, List.cons_append, List.nil_append, List.length_cons, List.length_nil, retS, retC, retO, retN, seqS, ifS, asg, asgO, exprS, appS, setS, augS, asgT, raiseS, nxS, op1, op2, op2C, tst, andF, orF, ifF, andB, orB, notB, chF, cst, vr, frz, frC, lstC, tupF, consF, nilF, bltF, bltC, one_d, bind_ok, bind_er, bind_bad, then_ok, then_er, then_bad, opt_some, opt_none, Vl.get, Slot.get, Slot.put, Slot.cont, Slot.lst, Slot.mut, Slot.shal, stables, sh, gets, argD, argB, callF, callO, callC, callB, callW, pick, Pk.of, and_self, boxC, partF, slF, srcF, srcR1, srcR2, srcZ, forS, popF, noEr_ok, noEr_er, yes, List.getElem?_cons_zero, List.getElem?_cons_succ, List.set_cons_zero, List.set_cons_succ, Option.bind_some, Option.bind_none, Option.map_some, Option.map_none, if_true, if_false, Bool.false_eq_true, if_pos, List.map_cons, List.map_nil, add_int, sub_int, negD, notD, boolOf, isD, isntD, isNone, Tg.put, Tg.puts, sh0, sh1, sh2, sh3, sh4, sh5, sh6, sh7, sh8, sh9, sh10, sh11, sh12, sh13, sh14, sh15, sh16, step_nx, step_ct, Nat.add_one_sub_one, Nat.sub_self, Nat.zero_add, Nat.reduceAdd, Nat.reduceSub, told_eq g, law_sides_eq g], rfl⟩ ?_
  rintro ρ rfl
  refine Rt.seq (P := fun ρ => ∃ s4 s5, ρ = sL T a b1 c H W rs s4 s5 .un) ?_ ?_
  · refine Nx.for_ (fun _ ρ => ∃ s4 s5, ρ = sL T a b1 c H W rs s4 s5 .un) rfl ⟨_, _, rfl⟩ ?_ fun ρ h => h
    rintro k d ρ hk ⟨s4, s5, rfl⟩
    refine ⟨_, rfl, ?_⟩
    obtain ⟨s5', e⟩ := turn_ok (T := T) (a := a) (b := b1) g (.val d) s5 .un
    have e : B_law_1 ((sL T a b1 c H W rs s4 s5 .un).set 4 (.val d)) = _ := e
    rw [e]
    exact ⟨_, _, rfl⟩
  rintro ρ ⟨s4, s5, rfl⟩
  refine Rt.seq (P := fun ρ => ∃ s6, ρ = sL T a b1 c H W rs s4 s5 s6) ?_ ?_
  · have hs : srcF (callF [.p] F__law_all [] (consF (vr 2) nilF)) (sL T a b1 c H W rs s4 s5 .un) = .ok ((allS H W).map sqD) (sL T a b1 c H W rs s4 s5 .un) := srcF_list (by simp only [sL, runD, runO, out0, slots0, List.replicate, List.append_nil, List.cons_append, List.nil_append, List.length_cons, List.length_nil, retS, retC, retO, retN, seqS, ifS, asg, asgO, exprS, appS, setS, augS, asgT, raiseS, nxS, op1, op2, op2C, tst, andF, orF, ifF, andB, orB, notB, chF, cst, vr, frz, frC, lstC, tupF, consF, nilF, bltF, bltC, one_d, bind_ok, bind_er, bind_bad, then_ok, then_er, then_bad, opt_some, opt_none, Vl.get, Slot.get, Slot.put, Slot.cont, Slot.lst, Slot.mut, Slot.shal, stables, sh, gets, argD, argB, callF, callO, callC, callB, callW, pick, Pk.of, and_self, boxC, partF, slF, srcF, srcR1, srcR2, srcZ, forS, popF, noEr_ok, noEr_er, yes, List.getElem?_cons_zero, List.getElem?_cons_succ, List.set_cons_zero, List.set_cons_succ, Option.bind_some, Option.bind_none, Option.map_some, Option.map_none, if_true, if_false, Bool.false_eq_true, if_pos, List.map_cons, List.map_nil, add_int, sub_int, negD, notD, boolOf, isD, isntD, isNone, Tg.put, Tg.puts, sh0, sh1, sh2, sh3, sh4, sh5, sh6, sh7, sh8, sh9, sh10, sh11, sh12, sh13, sh14, sh15, sh16, step_nx, step_ct, Nat.add_one_sub_one, Nat.sub_self, Nat.zero_add, Nat.reduceAdd, Nat.reduceSub, all_eqS g])
    obtain ⟨ρ', e, s6, h⟩ := for_inv (t := .nm 6) (body := B_law_2) sqD (fun _ ρ => ∃ s6, ρ = sL T a b1 c H W rs s4 s5 s6) (allS H W) (sL T a b1 c H W rs s4 s5 .un) ⟨_, rfl⟩ fun k p ρ hk ⟨s6, er⟩ => by
      subst er
      refine ⟨_, rfl, ?_⟩
      have m : isIn H W p = true := mem_allS.mp (List.mem_of_getElem? hk)
      have e : B_law_2 (sL T a b1 c H W rs s4 s5 (.val (sqD p))) = .nx (sL T a b1 c H W rs s4 s5 (.val (sqD p))) := by
        simp only [B_law_2, bF, sL, runD, runO, out0, slots0, List.replicate, List.append_nil, List.cons_append, List.nil_append, List.length_cons, List.length_nil, retS, retC, retO, retN, seqS, ifS, asg, asgO, exprS, appS, setS, augS, asgT, raiseS, nxS, op1, op2, op2C, tst, andF, orF, ifF, andB, orB, notB, chF, cst, vr, frz, frC, lstC, tupF, consF, nilF, bltF, bltC, one_d, bind_ok, bind_er, bind_bad, then_ok, then_er, then_bad, opt_some, opt_none, Vl.get, Slot.get, Slot.put, Slot.cont, Slot.lst, Slot.mut, Slot.shal, stables, sh, gets, argD, argB, callF, callO, callC, callB, callW, pick, Pk.of, and_self, boxC, partF, slF, srcF, srcR1, srcR2, srcZ, forS, popF, noEr_ok, noEr_er, yes, List.getElem?_cons_zero, List.getElem?_cons_succ, List.set_cons_zero, List.set_cons_succ, Option.bind_some, Option.bind_none, Option.map_some, Option.map_none, if_true, if_false, Bool.false_eq_true, if_pos, List.map_cons, List.map_nil, add_int, sub_int, negD, notD, boolOf, isD, isntD, isNone, Tg.put, Tg.puts, sh0, sh1, sh2, sh3, sh4, sh5, sh6, sh7, sh8, sh9, sh10, sh11, sh12, sh13, sh14, sh15, sh16, step_nx, step_ct, Nat.add_one_sub_one, Nat.sub_self, Nat.zero_add, Nat.reduceAdd, Nat.reduceSub, hour_ok g m, what_eq g, same_int, Bool.not_true]
      have e : B_law_2 ((sL T a b1 c H W rs s4 s5 s6).set 6 (.val (sqD p))) = _ := e
      rw [e]
      exact ⟨_, rfl⟩
    subst h
    refine Nx.eq ?_ ⟨s6, rfl⟩
    unfold L_law_2 forS
    rw [hs]
    exact e
  rintro ρ ⟨s6, rfl⟩
  obtain ⟨i0, lv, ll⟩ := g.w_eq
  refine Rt.seq (P := fun ρ => ∃ b s6, ρ = sL T a b c H W rs s4 s5 s6) ?_ ?_
  · obtain ⟨x, b2, en⟩ : ∃ x b2, F__law_number (bD b1) [] = .ok (.int x) false (bD b2) := ⟨_, _, number_eq b1⟩
    have outs : ∀ p ∈ [((-1, 0) : Sq), (0, -1), ((H : Int), 0), (0, (W : Int)), (x, 100000000000000000000)], isIn H W p = false := fun p m => by
      have n : ¬ isIn H W p = true := fun z => by
        rw [isIn_iff] at z
        have := g.w9
        simp only [List.mem_cons, List.not_mem_nil, or_false] at m
        rcases m with rfl | rfl | rfl | rfl | rfl <;> simp only at z <;> omega
      cases q : isIn H W p with
      | false => rfl
      | true => exact absurd q n
    obtain ⟨ρ', e, s6', h⟩ := for_inv (t := .nm 6) (body := B_law_3 T) sqD (fun _ ρ => ∃ s6, ρ = sL T a b2 c H W rs s4 s5 s6) [((-1, 0) : Sq), (0, -1), ((H : Int), 0), (0, (W : Int)), (x, 100000000000000000000)] (sL T a b2 c H W rs s4 s5 s6) ⟨_, rfl⟩ fun k p ρ hk ⟨s6, er⟩ => by
      subst er
      refine ⟨_, rfl, ?_⟩
      have m := outs p (List.mem_of_getElem? hk)
      have ea := (ask1 (T := T) (a := a) (b := b2) g s4 s5 m).eq
      have e : B_law_3 T (sL T a b2 c H W rs s4 s5 (.val (sqD p))) = .nx (sL T a b2 c H W rs s4 s5 (.val (sqD p))) := by
        simp only [B_law_3, bF, runD, runO, out0, slots0, List.replicate, List.append_nil, List.cons_append, List.nil_append, List.length_cons, List.length_nil, retS, retC, retO, retN, seqS, ifS, asg, asgO, exprS, appS, setS, augS, asgT, raiseS, nxS, op1, op2, op2C, tst, andF, orF, ifF, andB, orB, notB, chF, cst, vr, frz, frC, lstC, tupF, consF, nilF, bltF, bltC, one_d, bind_ok, bind_er, bind_bad, then_ok, then_er, then_bad, opt_some, opt_none, Vl.get, Slot.get, Slot.put, Slot.cont, Slot.lst, Slot.mut, Slot.shal, stables, sh, gets, argD, argB, callF, callO, callC, callB, callW, pick, Pk.of, and_self, boxC, partF, slF, srcF, srcR1, srcR2, srcZ, forS, popF, noEr_ok, noEr_er, yes, List.getElem?_cons_zero, List.getElem?_cons_succ, List.set_cons_zero, List.set_cons_succ, Option.bind_some, Option.bind_none, Option.map_some, Option.map_none, if_true, if_false, Bool.false_eq_true, if_pos, List.map_cons, List.map_nil, add_int, sub_int, negD, notD, boolOf, isD, isntD, isNone, Tg.put, Tg.puts, sh0, sh1, sh2, sh3, sh4, sh5, sh6, sh7, sh8, sh9, sh10, sh11, sh12, sh13, sh14, sh15, sh16, step_nx, step_ct, Nat.add_one_sub_one, Nat.sub_self, Nat.zero_add, Nat.reduceAdd, Nat.reduceSub, lam_eq (show (sL T a b2 c H W rs s4 s5 (.val (sqD p)))[7]? = some (.tab T) from rfl), ea, ne_strS (x := Str.ofString "square") (by decide +kernel)]
      have e : B_law_3 T ((sL T a b2 c H W rs s4 s5 s6).set 6 (.val (sqD p))) = _ := e
      rw [e]
      exact ⟨_, rfl⟩
    subst h
    refine Nx.eq ?_ ⟨b2, s6', rfl⟩
    unfold L_law_3 forS
    have es := srcF_tup (f := tupF (consF (tupF (consF (op1 negD (cst (.int 1))) (consF (cst (.int 0)) nilF))) (consF (tupF (consF (cst (.int 0)) (consF (op1 negD (cst (.int 1))) nilF))) (consF (tupF (consF (bltF (one lenD) (consF (op2 ixD (vr 2) (cst (.int 1))) nilF)) (consF (cst (.int 0)) nilF))) (consF (tupF (consF (cst (.int 0)) (consF (bltF (one lenD) (consF (op2 ixD (op2 ixD (vr 2) (cst (.int 1))) (cst (.int 0))) nilF)) nilF))) (consF (tupF (consF (callO [] F__law_number [] (consF (vr 1) nilF)) (consF (op2 powD (cst (.int 10)) (cst (.int 20))) nilF))) nilF)))))) (ρ := sL T a b1 c H W rs s4 s5 s6) (ρ1 := sL T a b2 c H W rs s4 s5 s6) (ds := [((-1, 0) : Sq), (0, -1), ((H : Int), 0), (0, (W : Int)), (x, 100000000000000000000)].map sqD) (by
      simp only [sL, runD, runO, out0, slots0, List.replicate, List.append_nil, List.cons_append, List.nil_append, List.length_cons, List.length_nil, retS, retC, retO, retN, seqS, ifS, asg, asgO, exprS, appS, setS, augS, asgT, raiseS, nxS, op1, op2, op2C, tst, andF, orF, ifF, andB, orB, notB, chF, cst, vr, frz, frC, lstC, tupF, consF, nilF, bltF, bltC, one_d, bind_ok, bind_er, bind_bad, then_ok, then_er, then_bad, opt_some, opt_none, Vl.get, Slot.get, Slot.put, Slot.cont, Slot.lst, Slot.mut, Slot.shal, stables, sh, gets, argD, argB, callF, callO, callC, callB, callW, pick, Pk.of, and_self, boxC, partF, slF, srcF, srcR1, srcR2, srcZ, forS, popF, noEr_ok, noEr_er, yes, List.getElem?_cons_zero, List.getElem?_cons_succ, List.set_cons_zero, List.set_cons_succ, Option.bind_some, Option.bind_none, Option.map_some, Option.map_none, if_true, if_false, Bool.false_eq_true, if_pos, List.map_cons, List.map_nil, add_int, sub_int, negD, notD, boolOf, isD, isntD, isNone, Tg.put, Tg.puts, sh0, sh1, sh2, sh3, sh4, sh5, sh6, sh7, sh8, sh9, sh10, sh11, sh12, sh13, sh14, sh15, sh16, step_nx, step_ct, Nat.add_one_sub_one, Nat.sub_self, Nat.zero_add, Nat.reduceAdd, Nat.reduceSub, ix_c1, i0, lv, ll, en, pow20]
      rfl)
    rw [es]
    exact e
  rintro ρ ⟨b, s6, rfl⟩
  exact ⟨_, rfl⟩
end LW

/-! K06e -/
set_option maxHeartbeats 0
namespace LW
open PySem PySem.Spec PyProof.Rows L2 DL
abbrev RR : PySem.W.OpenRow := PySem.W.OpenLaw.row PySem.Challenge.rw_cotide_k06_squares_and_sides
def d_is_clock : He.DefD := ⟨("is_clock", none), "is_clock", "is_clock", defArgs s_is_clock, defBody s_is_clock, defScope s_is_clock, [], []⟩
def d_is_square : He.DefD := ⟨("is_square", none), "is_square", "is_square", defArgs s_is_square, defBody s_is_square, defScope s_is_square, [], []⟩
def d_is_chart : He.DefD := ⟨("is_chart", none), "is_chart", "is_chart", defArgs s_is_chart, defBody s_is_chart, defScope s_is_chart, [], []⟩
def d_need_chart : He.DefD := ⟨("need_chart", none), "need_chart", "need_chart", defArgs s_need_chart, defBody s_need_chart, defScope s_need_chart, [], []⟩
def d_size : He.DefD := ⟨("size", none), "size", "size", defArgs s_size, defBody s_size, defScope s_size, [], []⟩
def d_within : He.DefD := ⟨("within", none), "within", "within", defArgs s_within, defBody s_within, defScope s_within, [], []⟩
def d_need_square : He.DefD := ⟨("need_square", none), "need_square", "need_square", defArgs s_need_square, defBody s_need_square, defScope s_need_square, [], []⟩
def d_value : He.DefD := ⟨("value", none), "value", "value", defArgs s_value, defBody s_value, defScope s_value, [], []⟩
def d_hour_at : He.DefD := ⟨("hour_at", none), "hour_at", "hour_at", defArgs s_hour_at, defBody s_hour_at, defScope s_hour_at, [], []⟩
def d_every_square : He.DefD := ⟨("every_square", none), "every_square", "every_square", defArgs s_every_square, defBody s_every_square, defScope s_every_square, [], []⟩
def d_told_squares : He.DefD := ⟨("told_squares", none), "told_squares", "told_squares", defArgs s_told_squares, defBody s_told_squares, defScope s_told_squares, [], []⟩
def d_told : He.DefD := ⟨("told", none), "told", "told", defArgs s_told, defBody s_told, defScope s_told, [], []⟩
def d_is_told : He.DefD := ⟨("is_told", none), "is_told", "is_told", defArgs s_is_told, defBody s_is_told, defScope s_is_told, [], []⟩
def d_sides_of : He.DefD := ⟨("sides_of", none), "sides_of", "sides_of", defArgs s_sides_of, defBody s_sides_of, defScope s_sides_of, [], []⟩
def d_sides : He.DefD := ⟨("sides", none), "sides", "sides", defArgs s_sides, defBody s_sides, defScope s_sides, [], []⟩
def d__law_box : He.DefD := ⟨("_law_box", none), "_law_box", "_law_box", defArgs s__law_box, defBody s__law_box, defScope s__law_box, [], []⟩
def d__law_whole : He.DefD := ⟨("_law_whole", none), "_law_whole", "_law_whole", defArgs s__law_whole, defBody s__law_whole, defScope s__law_whole, [], []⟩
def d__law_same : He.DefD := ⟨("_law_same", none), "_law_same", "_law_same", defArgs s__law_same, defBody s__law_same, defScope s__law_same, [], []⟩
def d__law_mixed : He.DefD := ⟨("_law_mixed", none), "_law_mixed", "_law_mixed", defArgs s__law_mixed, defBody s__law_mixed, defScope s__law_mixed, [], []⟩
def d__law_take : He.DefD := ⟨("_law_take", none), "_law_take", "_law_take", defArgs s__law_take, defBody s__law_take, defScope s__law_take, [], []⟩
def d__law_number : He.DefD := ⟨("_law_number", none), "_law_number", "_law_number", defArgs s__law_number, defBody s__law_number, defScope s__law_number, [], []⟩
def d__law_clock : He.DefD := ⟨("_law_clock", none), "_law_clock", "_law_clock", defArgs s__law_clock, defBody s__law_clock, defScope s__law_clock, [], []⟩
def d__law_square : He.DefD := ⟨("_law_square", none), "_law_square", "_law_square", defArgs s__law_square, defBody s__law_square, defScope s__law_square, [], []⟩
def d__law_near_hour : He.DefD := ⟨("_law_near_hour", none), "_law_near_hour", "_law_near_hour", defArgs s__law_near_hour, defBody s__law_near_hour, defScope s__law_near_hour, [], []⟩
def d__law_chart : He.DefD := ⟨("_law_chart", none), "_law_chart", "_law_chart", defArgs s__law_chart, defBody s__law_chart, defScope s__law_chart, [], []⟩
def d__law_what : He.DefD := ⟨("_law_what", none), "_law_what", "_law_what", defArgs s__law_what, defBody s__law_what, defScope s__law_what, [], []⟩
def d__law_all : He.DefD := ⟨("_law_all", none), "_law_all", "_law_all", defArgs s__law_all, defBody s__law_all, defScope s__law_all, [], []⟩
def d__law_told : He.DefD := ⟨("_law_told", none), "_law_told", "_law_told", defArgs s__law_told, defBody s__law_told, defScope s__law_told, [], []⟩
def d__law_sides : He.DefD := ⟨("_law_sides", none), "_law_sides", "_law_sides", defArgs s__law_sides, defBody s__law_sides, defScope s__law_sides, [], []⟩
def d__law_kind : He.DefD := ⟨("_law_kind", none), "_law_kind", "_law_kind", defArgs s__law_kind, defBody s__law_kind, defScope s__law_kind, [], []⟩
def d__law_word : He.DefD := ⟨("_law_word", none), "_law_word", "_law_word", defArgs s__law_word, defBody s__law_word, defScope s__law_word, [], []⟩
def d_law : He.DefD := ⟨("law", none), "law", "law", defArgs s_law, defBody s_law, defScope s_law, [], []⟩
def fnL : List He.DefD := [d_is_clock, d_is_square, d_is_chart, d_need_chart, d_size, d_within, d_need_square, d_value, d_hour_at, d_every_square, d_told_squares, d_told, d_is_told, d_sides_of, d_sides, d__law_box, d__law_whole, d__law_same, d__law_mixed, d__law_take, d__law_number, d__law_clock, d__law_square, d__law_near_hour, d__law_chart, d__law_what, d__law_all, d__law_told, d__law_sides, d__law_kind, d__law_word, d_law]
def faL : List He.Fa := [.glo "is_clock", .glo "is_square", .glo "is_chart", .glo "need_chart", .glo "size", .glo "within", .glo "need_square", .glo "value", .glo "hour_at", .glo "every_square", .glo "told_squares", .glo "told", .glo "is_told", .glo "sides_of", .glo "sides", .glo "_law_box", .glo "_law_whole", .glo "_law_same", .glo "_law_mixed", .glo "_law_take", .glo "_law_number", .glo "_law_clock", .glo "_law_square", .glo "_law_near_hour", .glo "_law_chart", .glo "_law_what", .glo "_law_all", .glo "_law_told", .glo "_law_sides", .glo "_law_kind", .glo "_law_word", .glo "law", .free "ValueError", .free "all", .free "bool", .free "int", .free "isinstance", .free "len", .free "list", .free "range", .free "sorted", .free "str", .free "tuple", .free "zip", .int "FEWEST_HOURS" (3), .int "MOST_HOURS" (15), .int "MOST_SIDE" (9), .int "UNTOLD" (-2), .glo "BadChart", .exc "BadChart", .glo "BadSquare", .exc "BadSquare", .glo "TideError", .exc "TideError", .glo "BadClock", .glo "BadHour", .glo "BadRing", .glo "BadBreaks", .glo "BadPrices", .glo "NoFill", .glo "Unlike", .glo "BadName", .glo "Taken", .glo "Full", .glo "NoChart", .glo "BadDay", .glo "BadDeed", .glo "NothingLeft", .glo "Knotted", .glo "BadText"]
def nm0 : List PySem.Str := ["TideError", "BadClock", "BadHour", "BadChart", "BadSquare", "BadRing", "BadBreaks", "BadPrices", "NoFill", "Unlike", "BadName", "Taken", "Full", "NoChart", "BadDay", "BadDeed", "NothingLeft", "Knotted", "BadText", "FEWEST_HOURS", "MOST_HOURS", "is_clock", "UNTOLD", "MOST_SIDE", "is_square", "is_chart", "need_chart", "size", "within", "need_square"]
def nm1 : List PySem.Str := ["value", "hour_at", "is_told", "every_square", "told", "told_squares", "sides", "sides_of", "_law_box", "_law_mixed", "_law_take", "_law_whole", "_law_same", "_law_clock", "_law_number", "_law_square", "_law_near_hour", "_law_chart", "_law_what", "_law_all", "_law_told", "_law_sides", "_law_word", "_law_kind"]
def nms : List PySem.Str := nm0 ++ nm1
abbrev hk : PySem.W.Hook := He.hookX 5 faL fnL [] [("law", none)] (fun K => DH.kindB kt "TideError" K)
def ob (s : PySem.W.SharedT) : He.AlX := He.obsX 5 faL fnL [] [("law", none)] (fun K => DH.kindB kt "TideError" K) (HandSHeadRun.getT s)
theorem ob_eq (s : PySem.W.SharedT) : ob s = hk.obs s.abs := He.obsX_eq (HandSHeadRun.getT_eq s)
theorem run (w : World) : HandSHeadRun.RunEq RR (PySem.W.view RR.prog [58]) hk ob 20000 nms w := by
  intro os
  kernel_rfl
theorem facts {P : Program} {w : World} {K : PySem.W.Frag} {h : Heap} {mg : Str → Option Value} {f : Addr} (X : K.In h) (G : h.Ns mainGlobals mg) (hfa : mg ("law" : Str) = some (.ref f)) (c : He.SaysD faL fnL K) (cx : (fun K => DH.kindB kt "TideError" K) K = true) :
    ∃ fd : FuncData, (∀ (s : Shared) (v : Value), BindsTo s fd ⟨[v], []⟩ [("_law_script", v)]) ∧ ∀ base : Heap, LamX.TabB base mg (He.cT K ("law", none)).1 (He.cT K ("law", none)).2 → FnOk P w K mg base (L2N.CX P w) 21 f fd ["_law_script"] (spLawT K f_law N_law.length (LT K)) := by
  have T : Tx K mg := ⟨He.free_ok X G (c.fact 32 (f := .free "ValueError") rfl),
    He.free_ok X G (c.fact 33 (f := .free "all") rfl),
    He.free_ok X G (c.fact 34 (f := .free "bool") rfl),
    He.free_ok X G (c.fact 35 (f := .free "int") rfl),
    He.free_ok X G (c.fact 36 (f := .free "isinstance") rfl),
    He.free_ok X G (c.fact 37 (f := .free "len") rfl),
    He.free_ok X G (c.fact 38 (f := .free "list") rfl),
    He.free_ok X G (c.fact 39 (f := .free "range") rfl),
    He.free_ok X G (c.fact 40 (f := .free "sorted") rfl),
    He.free_ok X G (c.fact 41 (f := .free "str") rfl),
    He.free_ok X G (c.fact 42 (f := .free "tuple") rfl),
    He.free_ok X G (c.fact 43 (f := .free "zip") rfl),
    He.int_ok X G (c.fact 44 (f := .int "FEWEST_HOURS" (3)) rfl),
    He.int_ok X G (c.fact 45 (f := .int "MOST_HOURS" (15)) rfl),
    He.int_ok X G (c.fact 46 (f := .int "MOST_SIDE" (9)) rfl),
    He.int_ok X G (c.fact 47 (f := .int "UNTOLD" (-2)) rfl),
    (by obtain ⟨h1, h2, h3, h4⟩ := He.exc_ok (c.fact 49 (f := .exc "BadChart") rfl); exact ⟨He.glo_ok X G (c.fact 48 (f := .glo "BadChart") rfl), h1, h2, h3, h4⟩),
    (by obtain ⟨h1, h2, h3, h4⟩ := He.exc_ok (c.fact 51 (f := .exc "BadSquare") rfl); exact ⟨He.glo_ok X G (c.fact 50 (f := .glo "BadSquare") rfl), h1, h2, h3, h4⟩),
    (by obtain ⟨h1, h2, h3, h4⟩ := He.exc_ok (c.fact 53 (f := .exc "TideError") rfl); exact ⟨He.glo_ok X G (c.fact 52 (f := .glo "TideError") rfl), h1, h2, h3, h4⟩)⟩
  have KG : ∀ p ∈ kt, mg p.1 = some (.ref (He.ga K p.1)) := by
    intro p hp
    simp only [kt, List.mem_cons, List.not_mem_nil, or_false] at hp
    rcases hp with rfl | rfl | rfl | rfl | rfl | rfl | rfl | rfl | rfl | rfl | rfl | rfl | rfl | rfl | rfl | rfl | rfl | rfl
    · exact He.glo_ok X G (c.fact 54 (f := .glo "BadClock") rfl)
    · exact He.glo_ok X G (c.fact 55 (f := .glo "BadHour") rfl)
    · exact He.glo_ok X G (c.fact 48 (f := .glo "BadChart") rfl)
    · exact He.glo_ok X G (c.fact 50 (f := .glo "BadSquare") rfl)
    · exact He.glo_ok X G (c.fact 56 (f := .glo "BadRing") rfl)
    · exact He.glo_ok X G (c.fact 57 (f := .glo "BadBreaks") rfl)
    · exact He.glo_ok X G (c.fact 58 (f := .glo "BadPrices") rfl)
    · exact He.glo_ok X G (c.fact 59 (f := .glo "NoFill") rfl)
    · exact He.glo_ok X G (c.fact 60 (f := .glo "Unlike") rfl)
    · exact He.glo_ok X G (c.fact 61 (f := .glo "BadName") rfl)
    · exact He.glo_ok X G (c.fact 62 (f := .glo "Taken") rfl)
    · exact He.glo_ok X G (c.fact 63 (f := .glo "Full") rfl)
    · exact He.glo_ok X G (c.fact 64 (f := .glo "NoChart") rfl)
    · exact He.glo_ok X G (c.fact 65 (f := .glo "BadDay") rfl)
    · exact He.glo_ok X G (c.fact 66 (f := .glo "BadDeed") rfl)
    · exact He.glo_ok X G (c.fact 67 (f := .glo "NothingLeft") rfl)
    · exact He.glo_ok X G (c.fact 68 (f := .glo "Knotted") rfl)
    · exact He.glo_ok X G (c.fact 69 (f := .glo "BadText") rfl)
  obtain ⟨KK, KX⟩ := DH.kindB_ok (kt := kt) cx KG
  have Dk_is_clock : DefK K mg "is_clock" (He.ga K "is_clock") s_is_clock ["clock"] [[]] := by
    obtain ⟨fd, F⟩ := c.def_ 0 (d := d_is_clock) rfl
    refine ⟨fd, _, _, F, He.glo_ok X G (c.fact 0 (f := .glo "is_clock") rfl), fun dd h => ?_⟩
    simp only [List.mem_singleton] at h
    subst h
    exact ⟨[], [], .nil, fun _ => .nil, FunD.bindsN (ps := ["clock"]) F fun _ _ _ _ _ _ us hl => match us, hl with | [_], _ => rfl⟩
  have Dk_is_square : DefK K mg "is_square" (He.ga K "is_square") s_is_square ["clock", "square"] [[]] := by
    obtain ⟨fd, F⟩ := c.def_ 1 (d := d_is_square) rfl
    refine ⟨fd, _, _, F, He.glo_ok X G (c.fact 1 (f := .glo "is_square") rfl), fun dd h => ?_⟩
    simp only [List.mem_singleton] at h
    subst h
    exact ⟨[], [], .nil, fun _ => .nil, FunD.bindsN (ps := ["clock", "square"]) F fun _ _ _ _ _ _ us hl => match us, hl with | [_, _], _ => rfl⟩
  have Dk_is_chart : DefK K mg "is_chart" (He.ga K "is_chart") s_is_chart ["chart"] [[]] := by
    obtain ⟨fd, F⟩ := c.def_ 2 (d := d_is_chart) rfl
    refine ⟨fd, _, _, F, He.glo_ok X G (c.fact 2 (f := .glo "is_chart") rfl), fun dd h => ?_⟩
    simp only [List.mem_singleton] at h
    subst h
    exact ⟨[], [], .nil, fun _ => .nil, FunD.bindsN (ps := ["chart"]) F fun _ _ _ _ _ _ us hl => match us, hl with | [_], _ => rfl⟩
  have Dk_need_chart : DefK K mg "need_chart" (He.ga K "need_chart") s_need_chart ["chart"] [[]] := by
    obtain ⟨fd, F⟩ := c.def_ 3 (d := d_need_chart) rfl
    refine ⟨fd, _, _, F, He.glo_ok X G (c.fact 3 (f := .glo "need_chart") rfl), fun dd h => ?_⟩
    simp only [List.mem_singleton] at h
    subst h
    exact ⟨[], [], .nil, fun _ => .nil, FunD.bindsN (ps := ["chart"]) F fun _ _ _ _ _ _ us hl => match us, hl with | [_], _ => rfl⟩
  have Dk_size : DefK K mg "size" (He.ga K "size") s_size ["chart"] [[]] := by
    obtain ⟨fd, F⟩ := c.def_ 4 (d := d_size) rfl
    refine ⟨fd, _, _, F, He.glo_ok X G (c.fact 4 (f := .glo "size") rfl), fun dd h => ?_⟩
    simp only [List.mem_singleton] at h
    subst h
    exact ⟨[], [], .nil, fun _ => .nil, FunD.bindsN (ps := ["chart"]) F fun _ _ _ _ _ _ us hl => match us, hl with | [_], _ => rfl⟩
  have Dk_within : DefK K mg "within" (He.ga K "within") s_within ["chart", "square"] [[]] := by
    obtain ⟨fd, F⟩ := c.def_ 5 (d := d_within) rfl
    refine ⟨fd, _, _, F, He.glo_ok X G (c.fact 5 (f := .glo "within") rfl), fun dd h => ?_⟩
    simp only [List.mem_singleton] at h
    subst h
    exact ⟨[], [], .nil, fun _ => .nil, FunD.bindsN (ps := ["chart", "square"]) F fun _ _ _ _ _ _ us hl => match us, hl with | [_, _], _ => rfl⟩
  have Dk_need_square : DefK K mg "need_square" (He.ga K "need_square") s_need_square ["chart", "square"] [[]] := by
    obtain ⟨fd, F⟩ := c.def_ 6 (d := d_need_square) rfl
    refine ⟨fd, _, _, F, He.glo_ok X G (c.fact 6 (f := .glo "need_square") rfl), fun dd h => ?_⟩
    simp only [List.mem_singleton] at h
    subst h
    exact ⟨[], [], .nil, fun _ => .nil, FunD.bindsN (ps := ["chart", "square"]) F fun _ _ _ _ _ _ us hl => match us, hl with | [_, _], _ => rfl⟩
  have Dk_value : DefK K mg "value" (He.ga K "value") s_value ["chart", "square"] [[]] := by
    obtain ⟨fd, F⟩ := c.def_ 7 (d := d_value) rfl
    refine ⟨fd, _, _, F, He.glo_ok X G (c.fact 7 (f := .glo "value") rfl), fun dd h => ?_⟩
    simp only [List.mem_singleton] at h
    subst h
    exact ⟨[], [], .nil, fun _ => .nil, FunD.bindsN (ps := ["chart", "square"]) F fun _ _ _ _ _ _ us hl => match us, hl with | [_, _], _ => rfl⟩
  have Dk_hour_at : DefK K mg "hour_at" (He.ga K "hour_at") s_hour_at ["chart", "square"] [[]] := by
    obtain ⟨fd, F⟩ := c.def_ 8 (d := d_hour_at) rfl
    refine ⟨fd, _, _, F, He.glo_ok X G (c.fact 8 (f := .glo "hour_at") rfl), fun dd h => ?_⟩
    simp only [List.mem_singleton] at h
    subst h
    exact ⟨[], [], .nil, fun _ => .nil, FunD.bindsN (ps := ["chart", "square"]) F fun _ _ _ _ _ _ us hl => match us, hl with | [_, _], _ => rfl⟩
  have Dk_every_square : DefK K mg "every_square" (He.ga K "every_square") s_every_square ["chart"] [[]] := by
    obtain ⟨fd, F⟩ := c.def_ 9 (d := d_every_square) rfl
    refine ⟨fd, _, _, F, He.glo_ok X G (c.fact 9 (f := .glo "every_square") rfl), fun dd h => ?_⟩
    simp only [List.mem_singleton] at h
    subst h
    exact ⟨[], [], .nil, fun _ => .nil, FunD.bindsN (ps := ["chart"]) F fun _ _ _ _ _ _ us hl => match us, hl with | [_], _ => rfl⟩
  have Dk_told_squares : DefK K mg "told_squares" (He.ga K "told_squares") s_told_squares ["chart"] [[]] := by
    obtain ⟨fd, F⟩ := c.def_ 10 (d := d_told_squares) rfl
    refine ⟨fd, _, _, F, He.glo_ok X G (c.fact 10 (f := .glo "told_squares") rfl), fun dd h => ?_⟩
    simp only [List.mem_singleton] at h
    subst h
    exact ⟨[], [], .nil, fun _ => .nil, FunD.bindsN (ps := ["chart"]) F fun _ _ _ _ _ _ us hl => match us, hl with | [_], _ => rfl⟩
  have Dk_told : DefK K mg "told" (He.ga K "told") s_told ["chart"] [[]] := by
    obtain ⟨fd, F⟩ := c.def_ 11 (d := d_told) rfl
    refine ⟨fd, _, _, F, He.glo_ok X G (c.fact 11 (f := .glo "told") rfl), fun dd h => ?_⟩
    simp only [List.mem_singleton] at h
    subst h
    exact ⟨[], [], .nil, fun _ => .nil, FunD.bindsN (ps := ["chart"]) F fun _ _ _ _ _ _ us hl => match us, hl with | [_], _ => rfl⟩
  have Dk_is_told : DefK K mg "is_told" (He.ga K "is_told") s_is_told ["chart", "square"] [[]] := by
    obtain ⟨fd, F⟩ := c.def_ 12 (d := d_is_told) rfl
    refine ⟨fd, _, _, F, He.glo_ok X G (c.fact 12 (f := .glo "is_told") rfl), fun dd h => ?_⟩
    simp only [List.mem_singleton] at h
    subst h
    exact ⟨[], [], .nil, fun _ => .nil, FunD.bindsN (ps := ["chart", "square"]) F fun _ _ _ _ _ _ us hl => match us, hl with | [_, _], _ => rfl⟩
  have Dk_sides_of : DefK K mg "sides_of" (He.ga K "sides_of") s_sides_of ["chart"] [[]] := by
    obtain ⟨fd, F⟩ := c.def_ 13 (d := d_sides_of) rfl
    refine ⟨fd, _, _, F, He.glo_ok X G (c.fact 13 (f := .glo "sides_of") rfl), fun dd h => ?_⟩
    simp only [List.mem_singleton] at h
    subst h
    exact ⟨[], [], .nil, fun _ => .nil, FunD.bindsN (ps := ["chart"]) F fun _ _ _ _ _ _ us hl => match us, hl with | [_], _ => rfl⟩
  have Dk_sides : DefK K mg "sides" (He.ga K "sides") s_sides ["chart"] [[]] := by
    obtain ⟨fd, F⟩ := c.def_ 14 (d := d_sides) rfl
    refine ⟨fd, _, _, F, He.glo_ok X G (c.fact 14 (f := .glo "sides") rfl), fun dd h => ?_⟩
    simp only [List.mem_singleton] at h
    subst h
    exact ⟨[], [], .nil, fun _ => .nil, FunD.bindsN (ps := ["chart"]) F fun _ _ _ _ _ _ us hl => match us, hl with | [_], _ => rfl⟩
  obtain ⟨fb, Fb⟩ := c.def_ 15 (d := d__law_box) rfl
  have Bb : Binds K fb ["_law_script"] [] := FunD.bindsN (ps := ["_law_script"]) Fb fun _ _ _ _ _ _ us hl => match us, hl with | [_], _ => rfl
  have gb := He.glo_ok X G (c.fact 15 (f := .glo "_law_box") rfl)
  have Dk__law_whole : DefK K mg "_law_whole" (He.ga K "_law_whole") s__law_whole ["_law_found"] [[]] := by
    obtain ⟨fd, F⟩ := c.def_ 16 (d := d__law_whole) rfl
    refine ⟨fd, _, _, F, He.glo_ok X G (c.fact 16 (f := .glo "_law_whole") rfl), fun dd h => ?_⟩
    simp only [List.mem_singleton] at h
    subst h
    exact ⟨[], [], .nil, fun _ => .nil, FunD.bindsN (ps := ["_law_found"]) F fun _ _ _ _ _ _ us hl => match us, hl with | [_], _ => rfl⟩
  have Dk__law_same : DefK K mg "_law_same" (He.ga K "_law_same") s__law_same ["_law_found", "_law_due"] [[]] := by
    obtain ⟨fd, F⟩ := c.def_ 17 (d := d__law_same) rfl
    refine ⟨fd, _, _, F, He.glo_ok X G (c.fact 17 (f := .glo "_law_same") rfl), fun dd h => ?_⟩
    simp only [List.mem_singleton] at h
    subst h
    exact ⟨[], [], .nil, fun _ => .nil, FunD.bindsN (ps := ["_law_found", "_law_due"]) F fun _ _ _ _ _ _ us hl => match us, hl with | [_, _], _ => rfl⟩
  have Dk__law_mixed : DefK K mg "_law_mixed" (He.ga K "_law_mixed") s__law_mixed ["_law_number_here", "_law_turn"] [[]] := by
    obtain ⟨fd, F⟩ := c.def_ 18 (d := d__law_mixed) rfl
    refine ⟨fd, _, _, F, He.glo_ok X G (c.fact 18 (f := .glo "_law_mixed") rfl), fun dd h => ?_⟩
    simp only [List.mem_singleton] at h
    subst h
    exact ⟨[], [], .nil, fun _ => .nil, FunD.bindsN (ps := ["_law_number_here", "_law_turn"]) F fun _ _ _ _ _ _ us hl => match us, hl with | [_, _], _ => rfl⟩
  have Dk__law_take : DefK K mg "_law_take" (He.ga K "_law_take") s__law_take ["_law_box_here", "_law_many"] [[]] := by
    obtain ⟨fd, F⟩ := c.def_ 19 (d := d__law_take) rfl
    refine ⟨fd, _, _, F, He.glo_ok X G (c.fact 19 (f := .glo "_law_take") rfl), fun dd h => ?_⟩
    simp only [List.mem_singleton] at h
    subst h
    exact ⟨[], [], .nil, fun _ => .nil, FunD.bindsN (ps := ["_law_box_here", "_law_many"]) F fun _ _ _ _ _ _ us hl => match us, hl with | [_, _], _ => rfl⟩
  have Dk__law_number : DefK K mg "_law_number" (He.ga K "_law_number") s__law_number ["_law_box_here"] [[]] := by
    obtain ⟨fd, F⟩ := c.def_ 20 (d := d__law_number) rfl
    refine ⟨fd, _, _, F, He.glo_ok X G (c.fact 20 (f := .glo "_law_number") rfl), fun dd h => ?_⟩
    simp only [List.mem_singleton] at h
    subst h
    exact ⟨[], [], .nil, fun _ => .nil, FunD.bindsN (ps := ["_law_box_here"]) F fun _ _ _ _ _ _ us hl => match us, hl with | [_], _ => rfl⟩
  have Dk__law_clock : DefK K mg "_law_clock" (He.ga K "_law_clock") s__law_clock ["_law_box_here"] [[]] := by
    obtain ⟨fd, F⟩ := c.def_ 21 (d := d__law_clock) rfl
    refine ⟨fd, _, _, F, He.glo_ok X G (c.fact 21 (f := .glo "_law_clock") rfl), fun dd h => ?_⟩
    simp only [List.mem_singleton] at h
    subst h
    exact ⟨[], [], .nil, fun _ => .nil, FunD.bindsN (ps := ["_law_box_here"]) F fun _ _ _ _ _ _ us hl => match us, hl with | [_], _ => rfl⟩
  have Dk__law_square : DefK K mg "_law_square" (He.ga K "_law_square") s__law_square ["_law_box_here", "_law_clock_here", "_law_land", "_law_untold", "_law_calm", "_law_old"] [[]] := by
    obtain ⟨fd, F⟩ := c.def_ 22 (d := d__law_square) rfl
    refine ⟨fd, _, _, F, He.glo_ok X G (c.fact 22 (f := .glo "_law_square") rfl), fun dd h => ?_⟩
    simp only [List.mem_singleton] at h
    subst h
    exact ⟨[], [], .nil, fun _ => .nil, FunD.bindsN (ps := ["_law_box_here", "_law_clock_here", "_law_land", "_law_untold", "_law_calm", "_law_old"]) F fun _ _ _ _ _ _ us hl => match us, hl with | [_, _, _, _, _, _], _ => rfl⟩
  have Dk__law_near_hour : DefK K mg "_law_near_hour" (He.ga K "_law_near_hour") s__law_near_hour ["_law_rows", "_law_line"] [[]] := by
    obtain ⟨fd, F⟩ := c.def_ 23 (d := d__law_near_hour) rfl
    refine ⟨fd, _, _, F, He.glo_ok X G (c.fact 23 (f := .glo "_law_near_hour") rfl), fun dd h => ?_⟩
    simp only [List.mem_singleton] at h
    subst h
    exact ⟨[], [], .nil, fun _ => .nil, FunD.bindsN (ps := ["_law_rows", "_law_line"]) F fun _ _ _ _ _ _ us hl => match us, hl with | [_, _], _ => rfl⟩
  have Dk__law_chart : DefK K mg "_law_chart" (He.ga K "_law_chart") s__law_chart ["_law_box_here", "_law_most", "_law_untold"] [[]] := by
    obtain ⟨fd, F⟩ := c.def_ 24 (d := d__law_chart) rfl
    refine ⟨fd, _, _, F, He.glo_ok X G (c.fact 24 (f := .glo "_law_chart") rfl), fun dd h => ?_⟩
    simp only [List.mem_singleton] at h
    subst h
    exact ⟨[], [], .nil, fun _ => .nil, FunD.bindsN (ps := ["_law_box_here", "_law_most", "_law_untold"]) F fun _ _ _ _ _ _ us hl => match us, hl with | [_, _, _], _ => rfl⟩
  have Dk__law_what : DefK K mg "_law_what" (He.ga K "_law_what") s__law_what ["_law_chart_here", "_law_square_here"] [[]] := by
    obtain ⟨fd, F⟩ := c.def_ 25 (d := d__law_what) rfl
    refine ⟨fd, _, _, F, He.glo_ok X G (c.fact 25 (f := .glo "_law_what") rfl), fun dd h => ?_⟩
    simp only [List.mem_singleton] at h
    subst h
    exact ⟨[], [], .nil, fun _ => .nil, FunD.bindsN (ps := ["_law_chart_here", "_law_square_here"]) F fun _ _ _ _ _ _ us hl => match us, hl with | [_, _], _ => rfl⟩
  have Dk__law_all : DefK K mg "_law_all" (He.ga K "_law_all") s__law_all ["_law_chart_here"] [[]] := by
    obtain ⟨fd, F⟩ := c.def_ 26 (d := d__law_all) rfl
    refine ⟨fd, _, _, F, He.glo_ok X G (c.fact 26 (f := .glo "_law_all") rfl), fun dd h => ?_⟩
    simp only [List.mem_singleton] at h
    subst h
    exact ⟨[], [], .nil, fun _ => .nil, FunD.bindsN (ps := ["_law_chart_here"]) F fun _ _ _ _ _ _ us hl => match us, hl with | [_], _ => rfl⟩
  have Dk__law_told : DefK K mg "_law_told" (He.ga K "_law_told") s__law_told ["_law_chart_here"] [[]] := by
    obtain ⟨fd, F⟩ := c.def_ 27 (d := d__law_told) rfl
    refine ⟨fd, _, _, F, He.glo_ok X G (c.fact 27 (f := .glo "_law_told") rfl), fun dd h => ?_⟩
    simp only [List.mem_singleton] at h
    subst h
    exact ⟨[], [], .nil, fun _ => .nil, FunD.bindsN (ps := ["_law_chart_here"]) F fun _ _ _ _ _ _ us hl => match us, hl with | [_], _ => rfl⟩
  have Dk__law_sides : DefK K mg "_law_sides" (He.ga K "_law_sides") s__law_sides ["_law_chart_here"] [[]] := by
    obtain ⟨fd, F⟩ := c.def_ 28 (d := d__law_sides) rfl
    refine ⟨fd, _, _, F, He.glo_ok X G (c.fact 28 (f := .glo "_law_sides") rfl), fun dd h => ?_⟩
    simp only [List.mem_singleton] at h
    subst h
    exact ⟨[], [], .nil, fun _ => .nil, FunD.bindsN (ps := ["_law_chart_here"]) F fun _ _ _ _ _ _ us hl => match us, hl with | [_], _ => rfl⟩
  obtain ⟨fd__law_kind, F__law_kind_⟩ := c.def_ 29 (d := d__law_kind) rfl
  have B__law_kind_ : Binds K fd__law_kind ["_law_e"] [] := FunD.bindsN (ps := ["_law_e"]) F__law_kind_ fun _ _ _ _ _ _ us hl => match us, hl with | [_], _ => rfl
  have g__law_kind_ := He.glo_ok X G (c.fact 29 (f := .glo "_law_kind") rfl)
  obtain ⟨fd__law_word, F__law_word_⟩ := c.def_ 30 (d := d__law_word) rfl
  have B__law_word_ : Binds K fd__law_word ["_law_ask"] [] := FunD.bindsN (ps := ["_law_ask"]) F__law_word_ fun _ _ _ _ _ _ us hl => match us, hl with | [_], _ => rfl
  have g__law_word_ := He.glo_ok X G (c.fact 30 (f := .glo "_law_word") rfl)
  obtain ⟨fl, Fl⟩ := c.def_ 31 (d := d_law) rfl
  have e := hfa.symm.trans (He.glo_ok X G (c.fact 31 (f := .glo "law") rfl))
  cases e
  refine ⟨fl, fun s v => FunD.bindsA (ps := ["_law_script"]) Fl (fun _ _ _ _ _ _ us hl => match us, hl with | [_], _ => rfl) s [v] rfl, fun base TB => ?_⟩
  have Gb : DefBox P w K mg base 1 "_law_box" (He.ga K "_law_box") "_law_script" f_law_box N__law_box.length := ⟨fb, gb, Fb.kp, ok_law_box T Fb, Bb⟩
  have G_is_clock := ok_is_clock (P := P) (w := w) (base := base) T  Dk_is_clock
  have G_is_square := ok_is_square (P := P) (w := w) (base := base) T  Dk_is_square
  have G_is_chart := ok_is_chart (P := P) (w := w) (base := base) T G_is_clock G_is_square Dk_is_chart
  have G_need_chart := ok_need_chart (P := P) (w := w) (base := base) T G_is_chart Dk_need_chart
  have G_size := ok_size (P := P) (w := w) (base := base) T G_need_chart Dk_size
  have G_within := ok_within (P := P) (w := w) (base := base) T  Dk_within
  have G_need_square := ok_need_square (P := P) (w := w) (base := base) T G_within Dk_need_square
  have G_value := ok_value (P := P) (w := w) (base := base) T  Dk_value
  have G_hour_at := ok_hour_at (P := P) (w := w) (base := base) T G_need_chart G_need_square G_value Dk_hour_at
  have G_every_square := ok_every_square (P := P) (w := w) (base := base) T  Dk_every_square
  have G_told_squares := ok_told_squares (P := P) (w := w) (base := base) T G_value G_every_square Dk_told_squares
  have G_told := ok_told (P := P) (w := w) (base := base) T G_need_chart G_told_squares Dk_told
  have G_is_told := ok_is_told (P := P) (w := w) (base := base) T G_within G_value Dk_is_told
  have G_sides_of := ok_sides_of (P := P) (w := w) (base := base) T G_told_squares G_is_told Dk_sides_of
  have G_sides := ok_sides (P := P) (w := w) (base := base) T G_need_chart G_sides_of Dk_sides
  have G__law_whole := ok__law_whole (P := P) (w := w) (base := base) T  Dk__law_whole
  have G__law_same := ok__law_same (P := P) (w := w) (base := base) T G__law_whole Dk__law_same 16
  have G__law_mixed := ok__law_mixed (P := P) (w := w) (base := base) T  Dk__law_mixed
  have G__law_take := ok__law_take (P := P) (w := w) (base := base) T G__law_mixed Dk__law_take
  have G__law_number := ok__law_number (P := P) (w := w) (base := base) T G__law_take Dk__law_number
  have G__law_clock := ok__law_clock (P := P) (w := w) (base := base) T G__law_take Dk__law_clock
  have G__law_square := ok__law_square (P := P) (w := w) (base := base) T G__law_take Dk__law_square
  have G__law_near_hour := ok__law_near_hour (P := P) (w := w) (base := base) T  Dk__law_near_hour
  have G__law_chart := ok__law_chart (P := P) (w := w) (base := base) T G__law_take G__law_clock G__law_square G__law_near_hour Dk__law_chart
  have G__law_what := ok__law_what (P := P) (w := w) (base := base) T  Dk__law_what
  have G__law_all := ok__law_all (P := P) (w := w) (base := base) T  Dk__law_all
  have G__law_told := ok__law_told (P := P) (w := w) (base := base) T G__law_what G__law_all Dk__law_told
  have G__law_sides := ok__law_sides (P := P) (w := w) (base := base) T G__law_what G__law_told Dk__law_sides
  have G__law_kind := ok__law_kind (P := P) (w := w) (base := base) T KK F__law_kind_ B__law_kind_ g__law_kind_ law_kind_run
  have G__law_word := ok__law_word (P := P) (w := w) (base := base) T KX KG G__law_kind F__law_word_ B__law_word_ g__law_word_
  exact ok_law T Gb law_box_run G_size G_hour_at G_told G_sides G__law_same G__law_number G__law_chart G__law_what G__law_all G__law_told G__law_sides G__law_word TB Fl
end LW
open PySem PySem.W PySem.Calls PyProof.Rows
set_option maxHeartbeats 0 in
theorem PySem.Challenge.cw_cotide_k06_squares_and_sides_holds : PySem.Challenge.rw_cotide_k06_squares_and_sides.Holds := by
  w_on; o_law
  refine HandSHeadRun.head_any (r := OpenLaw.row PySem.Challenge.rw_cotide_k06_squares_and_sides) (q := view (OpenLaw.row PySem.Challenge.rw_cotide_k06_squares_and_sides).prog [58]) (H := LW.hk) (ob := LW.ob) (M := 20000) (loose := LW.nms) (d := HandSHeadRun.topDef (OpenLaw.row PySem.Challenge.rw_cotide_k06_squares_and_sides).prog 58) (kwd := []) LW.ob_eq
    (by kernel_rfl) (fun s => by kernel_rfl) LW.run (by kernel_rfl) (by kernel_rfl) (by kernel_rfl) (by rfl) (by first | assumption | decide +kernel) (by decide +kernel) ⟨rfl, rfl, rfl, rfl, rfl, by decide +kernel⟩ ?hw ?hc
  case hw => w_witness2
  case hc =>
    refine DL.walk_ofET (l := PySem.Challenge.rw_cotide_k06_squares_and_sides) (n := 63) (k := 21) (x := "_law_script") (CX := fun w => L2N.CX (PySem.Challenge.rw_cotide_k06_squares_and_sides).prog w) rfl (by decide) (by kernel_rfl) ⟨rfl, by decide, by decide⟩ ?F (fun _ _ _ _ _ z => by
      obtain ⟨_, _, _, _, _, _, _, _, _, _, _, _, q⟩ := z
      exact q.elim)
    intro w mg fa h Y G hmg0
    obtain ⟨K, KX, c⟩ := Y
    have hmg : mg ("law" : PySem.Str) = some (.ref fa) := by
      have e : (HandSHeadRun.topDef (OpenLaw.row PySem.Challenge.rw_cotide_k06_squares_and_sides).prog 58).name = ("law" : PySem.Str) := by kernel_rfl
      rw [← e]
      exact hmg0
    obtain ⟨fd, hb, hF⟩ := LW.facts (P := (PySem.Challenge.rw_cotide_k06_squares_and_sides).prog) (w := w) KX G hmg c.t.d c.more
    have mt : (("law" : PySem.Str), (none : Option PySem.Str)) ∈ [(("law" : PySem.Str), (none : Option PySem.Str))] := List.mem_singleton_self _
    exact ⟨K, fd, [He.cT K ("law", none)], DL.spLawT K LW.f_law LW.N_law.length (LW.LT K), KX, fun p hp => by rw [List.mem_singleton.mp hp]; exact c.empty _ mt, fun p hp => by rw [List.mem_singleton.mp hp]; exact c.out _ mt, fun p hp => by rw [List.mem_singleton.mp hp]; exact PySem.W.codeHd_of_K KX (c.hd _ mt), hb,
      fun H a ns hl hbits hT hS => ⟨a, ns, rfl, hS, hl, fun p hp => by
        rw [List.mem_singleton.mp hp]
        exact hT _ (List.mem_singleton_self _), LW.law_true (LW.LT K) a ns hl hbits, fun _ => rfl⟩, fun base _ _ TB => hF base (TB _ (List.mem_singleton_self _))⟩
