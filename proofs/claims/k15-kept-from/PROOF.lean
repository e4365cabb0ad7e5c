import PyProof.Rows.All
import Wide.All
import OpenK.AllK
import Wide.FinOn
import KE.KStateDown
import Lean
import HandS.ForMost
import HandS.ForExc
import HandS.More
import HandS.Defaults
import HandS.Exc
import HandS.HeadHook1
import HandS.Deep
import HandS.TupAny
import HandS.TupLe
import HandS.IsInst
import HandS.Style
import HandS.Flow
import HandS.SetFor
import KE.GoesEnum
import HandS.Iter
import KE.KDictZip
import KE.SortData
import HandS.SortInts
import HandS.ExcValue
import HandS.ExcIs
import HandS.Text
import PyProof.StrLaws
import HandS.SetKeys
import PyProof.Rows.SetFrom
import HandS.TupSets
import HandS.FStr
import PyProof.ToksMono
import HandS.Strs
import KE.KDictPairs
import HandS.DictTup
import HandS.Conv
import KE.KDictSum
import HandS.Head0
import HandS.Head1
import HandS.Head2
import HandS.HeadEnd
import HandS.HeadHook2
import HandS.ExcBuiltin
import HandS.Ends
import HandS.HeadHook4
import PySem.Challenge.RW_heldrows_k15_whole_kept_from
set_option Elab.async false
set_option linter.all false
set_option maxRecDepth 100000
set_option maxHeartbeats 0
set_option autoImplicit false
section
/-! HrA: plain data, how it lies in the abstract heap, owned lists and dicts, the relation of an environment to slots and heap -/
namespace Hr
open PySem PySem.Spec L2

/-- plain data; arr: a list that is only read (the script); kt: a tuple of the module's; a dict: t tells whether its keys are tuples (else each key is a list of one) -/
inductive D where
  | non | bl (b : Bool) | int (i : Int) | str (x : Str) | tup (ds : List D) | lst (ds : List D)
  | dic (t : Bool) (ks : List (List Key)) (ds : List D)
  | arr (ds : List D) | kt (ds : List D)
  | exc (c : Str)

/-- a result: a value, an exception of a named class, or nothing known -/
inductive R (α : Type) where
  | ok (a : α) | exc (c : Str) | stuck
def R.bind {α β : Type} (x : R α) (f : α → R β) : R β := match x with
  | .ok a => f a
  | .exc c => .exc c
  | .stuck => .stuck
instance : Monad R where
  pure := R.ok
  bind := R.bind
@[simp] theorem R.pure_eq {α : Type} (a : α) : (pure a : R α) = .ok a := rfl
@[simp] theorem R.ok_bind {α β : Type} (a : α) (f : α → R β) : (R.ok a >>= f) = f a := rfl
@[simp] theorem R.exc_bind {α β : Type} (c : Str) (f : α → R β) : (R.exc c >>= f) = .exc c := rfl
@[simp] theorem R.stuck_bind {α β : Type} (f : α → R β) : ((R.stuck : R α) >>= f) = .stuck := rfl

def R.of {α : Type} : Option α → R α
  | some a => .ok a
  | none => .stuck
@[simp] theorem R.of_some {α : Type} (a : α) : R.of (some a) = .ok a := rfl
@[simp] theorem R.of_none {α : Type} : R.of (none : Option α) = .stuck := rfl

/-- who may change a thing: nobody any more, or its one owner (its items of the type t) -/
inductive OT where
  | fz | own (t : OT)
  deriving DecidableEq

abbrev En := List (Option D)
abbrev Frag := PySem.W.Frag
abbrev St := L2.St

def clsV (K : Frag) (c : Str) : Value := .ref (He.ga K c)
/-- an exception that was caught, at a -/
def XO (cls : Value) (a : Addr) : HO := .ext fun h => ∃ (oe : Obj) (vs : Array Value), h.get? a = some oe ∧ Zc cls none oe ∧ oe.data = .fields vs

/-- a tuple with no attributes of its own -/
def isKV : V → Bool
  | .int _ => true
  | .str _ => true
  | _ => false
def keyVs (vs : List V) : Bool := !vs.isEmpty && vs.all isKV
/-- its cell: one that may be a key is a tuple, any other is known to its object -/
def pT (us : List Value) (vs : List V) : HO := if keyVs vs = true then .tup vs else .frz { cls := .type "tuple", data := .seq us.toArray } (.tup vs)
theorem pT_ok {P : Program} {w : World} {H : Hp} {h : Heap} {a : Addr} {us : List Value} {vs : List V} (x : h.get? a = some { cls := .type "tuple", data := .seq us.toArray } ∧ vs.length ≤ sizeLine ∧ ∃ its : List Value, Vals vs its ∧ PyProof.Rows.IsTup h a its.toArray) : ObjOk P w H h a (pT us vs) := by
  unfold pT
  split
  · exact x.2
  · exact x
theorem pT_key {us : List Value} {vs : List V} (h : keyVs vs = true) : pT us vs = .tup vs := if_pos h
theorem pT_not {us : List Value} {vs : List V} (h : keyVs vs = false) : pT us vs = .frz { cls := .type "tuple", data := .seq us.toArray } (.tup vs) := if_neg (by rw [h]; simp)
def PlT (G : Hp) (a : Addr) (vs : List V) : Prop := ∃ us, G a = some (pT us vs)
theorem PlT.same {G G' : Hp} {a : Addr} {vs : List V} (h : PlT G a vs) (e : Same G G') : PlT G' a vs := let ⟨us, z⟩ := h; ⟨us, e _ _ z⟩
theorem PlT.sq {K : Frag} {H : Hp} {a : Addr} {vs : List V} (h : PlT H a vs) : SqT K H a vs := by
  obtain ⟨us, z⟩ := h
  cases q : keyVs vs with
  | true => rw [pT_key q] at z; exact .inl (.inl z)
  | false => rw [pT_not q] at z; exact .inl (.inr ⟨_, z⟩)
mutual
/-- the value v is the data d, in a part G of the heap that never changes -/
inductive RD (K : Frag) (G : Hp) : V → D → Prop
  | non : RD K G .non .non
  | bl (b : Bool) : RD K G (.bl b) (.bl b)
  | int (i : Int) : RD K G (.int i) (.int i)
  | str (x : Str) : PyData.strOk x = true → x.length ≤ sizeLine → RD K G (.str x) (.str x)
  | tup {a : Addr} {vs : List V} {ds : List D} : PlT G a vs → vs.length ≤ sizeLine → RDs K G vs ds → RD K G (.ref a) (.tup ds)
  | lst {a : Addr} {vs : List V} {ds : List D} : G a = some (.lst vs) → vs.length ≤ sizeLine → RDs K G vs ds → RD K G (.ref a) (.lst ds)
  | arr {a : Addr} {vs : List V} {ds : List D} : SqL K G a vs → vs.length ≤ sizeLine → RDs K G vs ds → RD K G (.ref a) (.arr ds)
  | kt {a : Addr} {vs : List V} {ds : List D} : SqT K G a vs → vs.length ≤ sizeLine → RDs K G vs ds → RD K G (.ref a) (.kt ds)
  | dK {a : Addr} {kvs : List (Key × V)} {ds : List D} : G a = some (.dK kvs) → kvs.length ≤ sizeLine → RDs K G (kvs.map (·.2)) ds → RD K G (.ref a) (.dic false (kvs.map fun p => [p.1]) ds)
  | dT {a : Addr} {kvs : List (List Key × V)} {ds : List D} : G a = some (.dT kvs) → kvs.length ≤ sizeLine → RDs K G (kvs.map (·.2)) ds → RD K G (.ref a) (.dic true (kvs.map fun p => p.1) ds)
  | exc {a : Addr} {c : Str} : G a = some (XO (clsV K c) a) → RD K G (.ref a) (.exc c)
inductive RDs (K : Frag) (G : Hp) : List V → List D → Prop
  | nil : RDs K G [] []
  | cons {v : V} {vs : List V} {d : D} {ds : List D} : RD K G v d → RDs K G vs ds → RDs K G (v :: vs) (d :: ds)
end

theorem SqT.same {K : Frag} {H H' : Hp} {a : Addr} {xs : List V} (e : Same H H') (h : SqT K H a xs) : SqT K H' a xs := by
  rcases h with (h | ⟨o, h⟩) | h
  · exact .inl (.inl (e _ _ h))
  · exact .inl (.inr ⟨o, e _ _ h⟩)
  · exact .inr h

mutual
theorem RD.mono {K : Frag} {G G' : Hp} (e : Same G G') : ∀ {v : V} {d : D}, RD K G v d → RD K G' v d
  | _, _, .non => .non
  | _, _, .bl b => .bl b
  | _, _, .int i => .int i
  | _, _, .str x h l => .str x h l
  | _, _, .tup s l r => .tup (s.same e) l (RDs.mono e r)
  | _, _, .kt s l r => .kt (SqT.same e s) l (RDs.mono e r)
  | _, _, .lst s l r => .lst (e _ _ s) l (RDs.mono e r)
  | _, _, .arr s l r => .arr (e.seq s) l (RDs.mono e r)
  | _, _, .dK s l r => .dK (e _ _ s) l (RDs.mono e r)
  | _, _, .dT s l r => .dT (e _ _ s) l (RDs.mono e r)
  | _, _, .exc s => .exc (e _ _ s)
theorem RDs.mono {K : Frag} {G G' : Hp} (e : Same G G') : ∀ {vs : List V} {ds : List D}, RDs K G vs ds → RDs K G' vs ds
  | _, _, .nil => .nil
  | _, _, .cons a b => .cons (RD.mono e a) (RDs.mono e b)
end
theorem RDs.length {K : Frag} {G : Hp} : ∀ {vs : List V} {ds : List D}, RDs K G vs ds → vs.length = ds.length
  | _, _, .nil => rfl
  | _, _, .cons _ r => congrArg Nat.succ r.length
theorem RDs.get {K : Frag} {G : Hp} : ∀ {vs : List V} {ds : List D} {i : Nat} {d : D}, RDs K G vs ds → ds[i]? = some d → ∃ v, vs[i]? = some v ∧ RD K G v d
  | _, _, _, _, .nil, e => by simp at e
  | _, _, 0, _, .cons a _, e => by simp at e; subst e; exact ⟨_, rfl, a⟩
  | _, _, i + 1, _, .cons _ r, e => by simpa using RDs.get (i := i) r (by simpa using e)
theorem RDs.get' {K : Frag} {G : Hp} : ∀ {vs : List V} {ds : List D} {i : Nat} {v : V}, RDs K G vs ds → vs[i]? = some v → ∃ d, ds[i]? = some d ∧ RD K G v d
  | _, _, _, _, .nil, e => by simp at e
  | _, _, 0, _, .cons a _, e => by simp at e; subst e; exact ⟨_, rfl, a⟩
  | _, _, i + 1, _, .cons _ r, e => by simpa using RDs.get' (i := i) r (by simpa using e)
theorem RDs.append {K : Frag} {G : Hp} : ∀ {vs ws : List V} {ds es : List D}, RDs K G vs ds → RDs K G ws es → RDs K G (vs ++ ws) (ds ++ es)
  | _, _, _, _, .nil, r => r
  | _, _, _, _, .cons a b, r => .cons a (RDs.append b r)
theorem RDs.take {K : Frag} {G : Hp} : ∀ {vs : List V} {ds : List D} (n : Nat), RDs K G vs ds → RDs K G (vs.take n) (ds.take n)
  | _, _, 0, _ => by simpa using RDs.nil
  | _, _, _ + 1, .nil => .nil
  | _, _, n + 1, .cons a b => .cons a (RDs.take n b)
theorem RDs.drop {K : Frag} {G : Hp} : ∀ {vs : List V} {ds : List D} (n : Nat), RDs K G vs ds → RDs K G (vs.drop n) (ds.drop n)
  | _, _, 0, r => r
  | _, _, _ + 1, .nil => .nil
  | _, _, n + 1, .cons _ b => RDs.drop n b

mutual
/-- v is the data d, owned as t says; fp: the cells that are owned -/
inductive OW (K : Frag) (G H : Hp) : V → D → OT → List Addr → Prop
  | fz {v : V} {d : D} : RD K G v d → OW K G H v d .fz []
  | ol {a : Addr} {vs : List V} {ds : List D} {t : OT} {fp : List Addr} : H a = some (.lst vs) → vs.length ≤ sizeLine → OWs K G H vs ds t fp → OW K G H (.ref a) (.lst ds) (.own t) (a :: fp)
  | odK {a : Addr} {kvs : List (Key × V)} {ds : List D} {t : OT} {fp : List Addr} : H a = some (.dK kvs) → kvs.length ≤ sizeLine → OWs K G H (kvs.map (·.2)) ds t fp → OW K G H (.ref a) (.dic false (kvs.map fun p => [p.1]) ds) (.own t) (a :: fp)
  | odT {a : Addr} {kvs : List (List Key × V)} {ds : List D} {t : OT} {fp : List Addr} : H a = some (.dT kvs) → kvs.length ≤ sizeLine → OWs K G H (kvs.map (·.2)) ds t fp → OW K G H (.ref a) (.dic true (kvs.map fun p => p.1) ds) (.own t) (a :: fp)
inductive OWs (K : Frag) (G H : Hp) : List V → List D → OT → List Addr → Prop
  | nil {t : OT} : OWs K G H [] [] t []
  | cons {v : V} {vs : List V} {d : D} {ds : List D} {t : OT} {fp fq : List Addr} : OW K G H v d t fp → OWs K G H vs ds t fq → OWs K G H (v :: vs) (d :: ds) t (fp ++ fq)
end

mutual
/-- what is owned stays while its cells and the frozen part stay -/
theorem OW.mono {K : Frag} {G G' H H' : Hp} (eG : Same G G') : ∀ {v : V} {d : D} {t : OT} {fp : List Addr}, (∀ a ∈ fp, ∀ o, H a = some o → H' a = some o) → OW K G H v d t fp → OW K G' H' v d t fp
  | _, _, _, _, _, .fz r => .fz (r.mono eG)
  | _, _, _, _, k, .ol h l r => .ol (k _ (List.mem_cons_self ..) _ h) l (OWs.mono eG (fun a m => k a (List.mem_cons_of_mem _ m)) r)
  | _, _, _, _, k, .odK h l r => .odK (k _ (List.mem_cons_self ..) _ h) l (OWs.mono eG (fun a m => k a (List.mem_cons_of_mem _ m)) r)
  | _, _, _, _, k, .odT h l r => .odT (k _ (List.mem_cons_self ..) _ h) l (OWs.mono eG (fun a m => k a (List.mem_cons_of_mem _ m)) r)
theorem OWs.mono {K : Frag} {G G' H H' : Hp} (eG : Same G G') : ∀ {vs : List V} {ds : List D} {t : OT} {fp : List Addr}, (∀ a ∈ fp, ∀ o, H a = some o → H' a = some o) → OWs K G H vs ds t fp → OWs K G' H' vs ds t fp
  | _, _, _, _, _, .nil => .nil
  | _, _, _, _, k, .cons a b => .cons (OW.mono eG (fun c m => k c (List.mem_append_left _ m)) a) (OWs.mono eG (fun c m => k c (List.mem_append_right _ m)) b)
end
/-- a cell that may be owned: it stands, and is no tuple -/
def Cel (H : Hp) (a : Addr) : Prop := ∃ o, H a = some o ∧ ∀ vs, o ≠ .tup vs
theorem Cel.mono {H H' : Hp} {a : Addr} (e : Same H H') (c : Cel H a) : Cel H' a := let ⟨o, h, n⟩ := c; ⟨o, e a o h, n⟩
theorem Cel.ne {H : Hp} {a : Addr} (c : Cel H a) : H a ≠ none := let ⟨o, h, _⟩ := c; fun z => by rw [h] at z; cases z
mutual
/-- its cells stand in the heap -/
theorem OW.there {K : Frag} {G H : Hp} : ∀ {v : V} {d : D} {t : OT} {fp : List Addr}, OW K G H v d t fp → ∀ a ∈ fp, Cel H a
  | _, _, _, _, .fz _, a, m => by cases m
  | _, _, _, _, .ol h _ r, a, m => by
    rcases List.mem_cons.mp m with e | m
    · subst e; exact ⟨_, h, fun _ z => nomatch z⟩
    · exact OWs.there r a m
  | _, _, _, _, .odK h _ r, a, m => by
    rcases List.mem_cons.mp m with e | m
    · subst e; exact ⟨_, h, fun _ z => nomatch z⟩
    · exact OWs.there r a m
  | _, _, _, _, .odT h _ r, a, m => by
    rcases List.mem_cons.mp m with e | m
    · subst e; exact ⟨_, h, fun _ z => nomatch z⟩
    · exact OWs.there r a m
theorem OWs.there {K : Frag} {G H : Hp} : ∀ {vs : List V} {ds : List D} {t : OT} {fp : List Addr}, OWs K G H vs ds t fp → ∀ a ∈ fp, Cel H a
  | _, _, _, _, .nil, a, m => by cases m
  | _, _, _, _, .cons x y, a, m => by
    rcases List.mem_append.mp m with m | m
    · exact OW.there x a m
    · exact OWs.there y a m
end
mutual
/-- owned data, read now: in any heap that holds both -/
theorem OW.now {K : Frag} {G H Z : Hp} (eG : Same G Z) : ∀ {v : V} {d : D} {t : OT} {fp : List Addr}, (∀ a ∈ fp, ∀ o, H a = some o → Z a = some o) → OW K G H v d t fp → RD K Z v d
  | _, _, _, _, _, .fz r => r.mono eG
  | _, _, _, _, k, .ol h l r => .lst (k _ (List.mem_cons_self ..) _ h) l (OWs.now eG (fun a m => k a (List.mem_cons_of_mem _ m)) r)
  | _, _, _, _, k, .odK h l r => .dK (k _ (List.mem_cons_self ..) _ h) l (OWs.now eG (fun a m => k a (List.mem_cons_of_mem _ m)) r)
  | _, _, _, _, k, .odT h l r => .dT (k _ (List.mem_cons_self ..) _ h) l (OWs.now eG (fun a m => k a (List.mem_cons_of_mem _ m)) r)
theorem OWs.now {K : Frag} {G H Z : Hp} (eG : Same G Z) : ∀ {vs : List V} {ds : List D} {t : OT} {fp : List Addr}, (∀ a ∈ fp, ∀ o, H a = some o → Z a = some o) → OWs K G H vs ds t fp → RDs K Z vs ds
  | _, _, _, _, _, .nil => .nil
  | _, _, _, _, k, .cons a b => .cons (OW.now eG (fun c m => k c (List.mem_append_left _ m)) a) (OWs.now eG (fun c m => k c (List.mem_append_right _ m)) b)
end
theorem OWs.fzs {K : Frag} {G H : Hp} : ∀ {vs : List V} {ds : List D}, RDs K G vs ds → OWs K G H vs ds .fz []
  | _, _, .nil => .nil
  | _, _, .cons a b => .cons (fp := []) (fq := []) (.fz a) (OWs.fzs b)
theorem OWs.unfz {K : Frag} {G H : Hp} : ∀ {vs : List V} {ds : List D} {fp : List Addr}, OWs K G H vs ds .fz fp → RDs K G vs ds ∧ fp = []
  | _, _, _, .nil => ⟨.nil, rfl⟩
  | _, _, _, .cons (.fz a) b => by
    obtain ⟨r, e⟩ := OWs.unfz b
    subst e
    exact ⟨.cons a r, rfl⟩

/-- the frozen part with the cells fp of H in it -/
def join (G H : Hp) (fp : List Addr) : Hp := fun a => if a ∈ fp then H a else G a
theorem join_same {G H : Hp} {fp : List Addr} (h : ∀ a ∈ fp, G a = none) : Same G (join G H fp) := fun b o e => by
  unfold join
  rw [if_neg fun m => by rw [h b m] at e; cases e]
  exact e
theorem join_in {G H : Hp} {fp : List Addr} {a : Addr} (m : a ∈ fp) : join G H fp a = H a := by unfold join; rw [if_pos m]
theorem join_out {G H : Hp} {fp : List Addr} {a : Addr} (m : a ∉ fp) : join G H fp a = G a := by unfold join; rw [if_neg m]
theorem join_le {G H : Hp} {fp : List Addr} (e : Same G H) : Same (join G H fp) H := fun b o q => by
  unfold join at q
  split at q
  · exact q
  · exact e b o q

/-- the types of the owned slots; all others are frozen -/
abbrev Ow := List (Nat × OT)
def oty (Γ : Ow) (i : Nat) : OT := (Γ.lookup i).getD .fz

/-- at a def's entry: the whole heap, the data in it -/
structure Base where
  H0 : Hp
  G0 : Hp

/-- each slot's data, with the cells φ i -/
structure SL (K : Frag) (G H : Hp) (σ : St) (s : En) (Γ : Ow) (φ : Nat → List Addr) : Prop where
  at_ : ∀ i d, s[i]? = some (some d) → ∃ v, σ[i]? = some (some v) ∧ OW K G H v d (oty Γ i) (φ i)
  nd : ∀ i, (φ i).Nodup
  dj : ∀ i j a, a ∈ φ i → a ∈ φ j → i = j
  ok : ∀ i a, a ∈ φ i → Cel H a ∧ G a = none

structure Rel (K : Frag) (B : Base) (Γ : Ow) (s : En) (G : Hp) (σ : St) (H : Hp) : Prop where
  len : s.length = σ.length
  sl : ∃ φ, SL K G H σ s Γ φ ∧ ∀ i a, a ∈ φ i → B.H0 a = none
  hH : Same B.H0 H
  hG : Same B.G0 G
  GH : Same G H
  fr : ∀ a, B.G0 a = none → Cel B.H0 a → G a = none

/-- what pure code may do: the heap grows, the data grow, by new cells alone -/
structure Grow (G H G' H' : Hp) : Prop where
  g : Same G G'
  h : Same H H'
  gh : Same G' H'
  nw : ∀ a, G a = none → Cel H a → G' a = none

theorem Grow.refl {G H : Hp} (e : Same G H) : Grow G H G H := ⟨.refl _, .refl _, e, fun _ h _ => h⟩
theorem Grow.trans {G H G1 H1 G2 H2 : Hp} (a : Grow G H G1 H1) (b : Grow G1 H1 G2 H2) : Grow G H G2 H2 :=
  ⟨a.g.trans b.g, a.h.trans b.h, b.gh, fun c h1 h2 => b.nw c (a.nw c h1 h2) (h2.mono a.h)⟩
theorem Same.upd {H : Hp} {p : Addr} {o : HO} (h : H p = none) : Same H (upd H p o) := fun b u e => by rw [upd_ne (ne_of_none e h)]; exact e
theorem Same.none_of {G H : Hp} (e : Same G H) {p : Addr} (h : H p = none) : G p = none := e.free h
/-- a new cell among the data -/
theorem Grow.new {G H : Hp} (e : Same G H) {p : Addr} {o : HO} (h : H p = none) : Grow G H (upd G p o) (upd H p o) :=
  ⟨Same.upd (e.free h), Same.upd h, fun b u q => by
    by_cases hb : b = p
    · subst hb; rw [upd_same] at q ⊢; exact q
    · rw [upd_ne hb] at q ⊢; exact e b u q, fun a h1 h2 => by
    rw [upd_ne]
    · exact h1
    · intro z; subst z; exact h2.ne h⟩

theorem Rel.grow {K : Frag} {B : Base} {Γ : Ow} {s : En} {G G' : Hp} {σ : St} {H H' : Hp} (r : Rel K B Γ s G σ H) (g : Grow G H G' H') : Rel K B Γ s G' σ H' := by
  obtain ⟨φ, sl, hf⟩ := r.sl
  refine ⟨r.len, ⟨φ, ⟨fun i d e => ?_, sl.nd, sl.dj, fun i a m => ?_⟩, hf⟩, r.hH.trans g.h, r.hG.trans g.g, g.gh, fun a h1 h2 => ?_⟩
  · obtain ⟨v, e1, ow⟩ := sl.at_ i d e
    exact ⟨v, e1, ow.mono g.g fun a _ o q => g.h a o q⟩
  · obtain ⟨h1, h2⟩ := sl.ok i a m
    exact ⟨h1.mono g.h, g.nw a h2 h1⟩
  · exact g.nw a (r.fr a h1 h2) (h2.mono r.hH)

/-- a thing just made (or handed out): owned as t, by nobody else -/
structure Tmp (K : Frag) (B : Base) (Γ : Ow) (s : En) (G : Hp) (σ : St) (H : Hp) (v : V) (d : D) (t : OT) : Prop where
  rel : Rel K B Γ s G σ H
  ow : ∃ φ fq, SL K G H σ s Γ φ ∧ (∀ i a, a ∈ φ i → B.H0 a = none) ∧ OW K G H v d t fq ∧ fq.Nodup ∧ (∀ i a, a ∈ φ i → a ∉ fq) ∧ ∀ a ∈ fq, Cel H a ∧ G a = none ∧ B.H0 a = none

theorem Tmp.of_fz {K : Frag} {B : Base} {Γ : Ow} {s : En} {G : Hp} {σ : St} {H : Hp} {v : V} {d : D} (r : Rel K B Γ s G σ H) (h : RD K G v d) : Tmp K B Γ s G σ H v d .fz := by
  obtain ⟨φ, sl, hf⟩ := r.sl
  exact ⟨r, φ, [], sl, hf, .fz h, List.nodup_nil, fun _ _ _ m => (by cases m), fun _ m => (by cases m)⟩
/-- it is frozen -/
theorem Tmp.freeze {K : Frag} {B : Base} {Γ : Ow} {s : En} {G : Hp} {σ : St} {H : Hp} {v : V} {d : D} {t : OT} (r : Tmp K B Γ s G σ H v d t) : ∃ G', Same G G' ∧ Rel K B Γ s G' σ H ∧ RD K G' v d := by
  obtain ⟨φ, fq, sl, hf, ow, nd, dj, ok⟩ := r.ow
  have r := r.rel
  have e1 : Same G (join G H fq) := join_same fun a m => (ok a m).2.1
  refine ⟨join G H fq, e1, ⟨r.len, ⟨φ, ⟨fun i d' e => ?_, sl.nd, sl.dj, fun i a m => ⟨(sl.ok i a m).1, ?_⟩⟩, hf⟩, r.hH, r.hG.trans e1, join_le r.GH, fun a h1 h2 => ?_⟩, ?_⟩
  · obtain ⟨v', q, o⟩ := sl.at_ i d' e
    exact ⟨v', q, o.mono e1 fun _ _ _ z => z⟩
  · rw [join_out (dj i a m)]
    exact (sl.ok i a m).2
  · rw [join_out fun m => h2.ne (ok a m).2.2]
    exact r.fr a h1 h2
  · exact ow.now e1 fun a m o q => by rw [join_in m]; exact q

theorem getElem?_set_cases {α : Type} {l : List α} {i j : Nat} {x y : α} (h : (l.set i x)[j]? = some y) : (j = i ∧ y = x) ∨ (j ≠ i ∧ l[j]? = some y) := by
  by_cases e : j = i
  · subst e
    left
    refine ⟨rfl, ?_⟩
    rw [List.getElem?_set] at h
    simp only [if_true] at h
    split at h
    · exact (Option.some.inj h).symm
    · cases h
  · right
    refine ⟨e, ?_⟩
    rw [List.getElem?_set_ne (Ne.symm e)] at h
    exact h

/-- a slot takes a thing just made -/
theorem Tmp.set {K : Frag} {B : Base} {Γ Γ' : Ow} {s : En} {G : Hp} {σ : St} {H : Hp} {v : V} {d : D} {t : OT} (r : Tmp K B Γ s G σ H v d t) (i : Nat) (ht : oty Γ' i = t) (hΓ : ∀ j, j ≠ i → oty Γ' j = oty Γ j) (hi : i < σ.length) :
    Rel K B Γ' (s.set i (some d)) G (σ.set i (some v)) H := by
  obtain ⟨φ, fq, sl, hf, ow, nd, dj, ok⟩ := r.ow
  have r := r.rel
  refine ⟨by rw [List.length_set, List.length_set]; exact r.len, ⟨fun j => if j = i then fq else φ j, ⟨fun j d' e => ?_, fun j => ?_, fun j k a m n => ?_, fun j a m => ?_⟩, fun j a m => ?_⟩, r.hH, r.hG, r.GH, r.fr⟩
  · rcases getElem?_set_cases e with ⟨rfl, e'⟩ | ⟨ne, e⟩
    · cases e'
      rw [if_pos rfl, ht]
      exact ⟨v, by rw [List.getElem?_set_self hi], ow⟩
    · rw [if_neg ne, hΓ j ne]
      obtain ⟨v', q, o⟩ := sl.at_ j d' e
      exact ⟨v', by rw [List.getElem?_set_ne (Ne.symm ne)]; exact q, o⟩
  · (try dsimp only); split
    · exact nd
    · exact sl.nd j
  · (try dsimp only at m n)
    split at m <;> split at n
    · rename_i h1 h2; rw [h1, h2]
    · exact absurd m (dj k a n)
    · exact absurd n (dj j a m)
    · exact sl.dj j k a m n
  · (try dsimp only at m)
    split at m
    · exact ⟨(ok a m).1, (ok a m).2.1⟩
    · exact sl.ok j a m
  · (try dsimp only at m)
    split at m
    · exact (ok a m).2.2
    · exact hf j a m
/-- a slot is forgotten -/
theorem Rel.forget {K : Frag} {B : Base} {Γ : Ow} {s s' : En} {G : Hp} {σ σ' : St} {H : Hp} (r : Rel K B Γ s G σ H) (hl : s'.length = σ'.length) (h : ∀ (i : Nat) (d : D), s'[i]? = some (some d) → s[i]? = some (some d) ∧ ∀ v : V, σ[i]? = some (some v) → σ'[i]? = some (some v)) : Rel K B Γ s' G σ' H := by
  obtain ⟨φ, sl, hf⟩ := r.sl
  refine ⟨hl, ⟨φ, ⟨fun i d e => ?_, sl.nd, sl.dj, sl.ok⟩, hf⟩, r.hH, r.hG, r.GH, r.fr⟩
  obtain ⟨e1, k⟩ := h i d e
  obtain ⟨v, e2, o⟩ := sl.at_ i d e1
  exact ⟨v, k v e2, o⟩
/-- one slot is taken out -/
theorem Rel.out {K : Frag} {B : Base} {Γ : Ow} {s : En} {G : Hp} {σ : St} {H : Hp} (r : Rel K B Γ s G σ H) {i : Nat} {d : D} (e : s[i]? = some (some d)) : ∃ v, σ[i]? = some (some v) ∧ Tmp K B Γ (s.set i none) G σ H v d (oty Γ i) := by
  obtain ⟨φ, sl, hf⟩ := r.sl
  obtain ⟨v, e1, o⟩ := sl.at_ i d e
  refine ⟨v, e1, r.forget (by rw [List.length_set]; exact r.len) (fun j d' q => ?_), fun j => if j = i then [] else φ j, φ i, ⟨fun j d' q => ?_, fun j => ?_, fun j k a m n => ?_, fun j a m => ?_⟩, fun j a m => ?_, o, sl.nd i, fun j a m n => ?_, fun a m => ⟨(sl.ok i a m).1, (sl.ok i a m).2, hf i a m⟩⟩
  · rcases getElem?_set_cases q with ⟨_, q'⟩ | ⟨_, q'⟩
    · cases q'
    · exact ⟨q', fun _ z => z⟩
  · rcases getElem?_set_cases q with ⟨_, q'⟩ | ⟨ne, q'⟩
    · cases q'
    · rw [if_neg ne]; exact sl.at_ j d' q'
  · (try dsimp only); split
    · exact List.nodup_nil
    · exact sl.nd j
  · (try dsimp only at m n)
    split at m
    · cases m
    · split at n
      · cases n
      · exact sl.dj j k a m n
  · (try dsimp only at m)
    split at m
    · cases m
    · exact sl.ok j a m
  · (try dsimp only at m)
    split at m
    · cases m
    · exact hf j a m
  · (try dsimp only at m)
    split at m
    · cases m
    · rename_i ne; exact ne (sl.dj j i a m n)
theorem set_set_same {α : Type} : ∀ (l : List α) (i : Nat) (x : α), l[i]? = some x → ∀ y, (l.set i y).set i x = l
  | [], _, _, e, _ => by simp at e
  | a :: l, 0, x, e, y => by simp at e; subst e; rfl
  | a :: l, i + 1, x, e, y => by
    show a :: (l.set i y).set i x = a :: l
    rw [set_set_same l i x (by simpa using e) y]
theorem set_same {α : Type} : ∀ (l : List α) (i : Nat) (x : α), l[i]? = some x → l.set i x = l
  | [], _, _, e => by simp at e
  | a :: l, 0, x, e => by simp at e; subst e; rfl
  | a :: l, i + 1, x, e => by
    show a :: l.set i x = a :: l
    rw [set_same l i x (by simpa using e)]
/-- a slot is frozen from now on -/
theorem Rel.freeze {K : Frag} {B : Base} {Γ Γ' : Ow} {s : En} {G : Hp} {σ : St} {H : Hp} (r : Rel K B Γ s G σ H) (i : Nat) (ht : oty Γ' i = .fz) (hΓ : ∀ j, j ≠ i → oty Γ' j = oty Γ j) : ∃ G', Same G G' ∧ Rel K B Γ' s G' σ H := by
  cases e : s[i]? with
  | none =>
    obtain ⟨φ, sl, hf⟩ := r.sl
    refine ⟨G, .refl _, r.len, ⟨φ, ⟨fun j d q => ?_, sl.nd, sl.dj, sl.ok⟩, hf⟩, r.hH, r.hG, r.GH, r.fr⟩
    rw [hΓ j fun z => by subst z; rw [e] at q; cases q]
    exact sl.at_ j d q
  | some od =>
    cases od with
    | none =>
      obtain ⟨φ, sl, hf⟩ := r.sl
      refine ⟨G, .refl _, r.len, ⟨φ, ⟨fun j d q => ?_, sl.nd, sl.dj, sl.ok⟩, hf⟩, r.hH, r.hG, r.GH, r.fr⟩
      rw [hΓ j fun z => by subst z; rw [e] at q; cases q]
      exact sl.at_ j d q
    | some d =>
      obtain ⟨v, e1, t⟩ := r.out e
      obtain ⟨G', g, r', rd⟩ := t.freeze
      have hi : i < σ.length := by rw [← r.len]; exact (List.getElem?_eq_some_iff.mp e).1
      refine ⟨G', g, ?_⟩
      have q := (Tmp.of_fz r' rd).set i ht hΓ hi
      rw [set_set_same s i _ e, set_same σ i _ e1] at q
      exact q
/-- a slot, read now -/
theorem Rel.now {K : Frag} {B : Base} {Γ : Ow} {s : En} {G : Hp} {σ : St} {H : Hp} (r : Rel K B Γ s G σ H) {i : Nat} {d : D} (e : s[i]? = some (some d)) : ∃ v, σ[i]? = some (some v) ∧ RD K H v d ∧ (oty Γ i = .fz → RD K G v d) := by
  obtain ⟨φ, sl, hf⟩ := r.sl
  obtain ⟨v, e1, o⟩ := sl.at_ i d e
  refine ⟨v, e1, o.now r.GH fun _ _ _ q => q, fun z => ?_⟩
  rw [z] at o
  generalize φ i = fp at o
  cases o with
  | fz h => exact h
end Hr

end
section
/-! HrB: operations on data, and what an expression is worth -/
namespace Hr
open PySem PySem.Spec L2

namespace D
mutual
def py : D → PyData
  | .non => .none
  | .bl b => .bool b
  | .int i => .int i
  | .str x => .str x
  | .tup ds => .tuple (pys ds)
  | .lst ds => .list (pys ds)
  | .arr ds => .list (pys ds)
  | .kt ds => .tuple (pys ds)
  | .dic _ _ _ => .none
  | .exc _ => .none
def pys : List D → List PyData
  | [] => []
  | d :: ds => py d :: pys ds
end
mutual
/-- data that == takes: no dicts, no exceptions -/
def pl : D → Bool
  | .tup ds => pls ds
  | .lst ds => pls ds
  | .arr ds => pls ds
  | .kt ds => pls ds
  | .dic _ _ _ => false
  | .exc _ => false
  | _ => true
def pls : List D → Bool
  | [] => true
  | d :: ds => pl d && pls ds
end
def dep (d : D) : Nat := d.py.depth
def eqv (a b : D) : Bool := PyData.eqv a.py b.py
end D
theorem pys_map : ∀ ds : List D, D.pys ds = ds.map D.py
  | [] => rfl
  | d :: ds => by rw [D.pys, pys_map ds]; rfl

mutual
theorem RD.dp {K : Frag} {G : Hp} : ∀ {v : V} {d : D}, RD K G v d → d.pl = true → Dp K G v d.py
  | _, _, .non, _ => .non
  | _, _, .bl b, _ => .bl b
  | _, _, .int i, _ => .int i
  | _, _, .str x _ _, _ => .str x
  | _, _, .tup s _ r, h => .tup s.sq (RDs.dp r h)
  | _, _, .kt s _ r, h => .tup s (RDs.dp r h)
  | _, _, .lst s _ r, h => .lst (.inl (.inl s)) (RDs.dp r h)
  | _, _, .arr s _ r, h => .lst s (RDs.dp r h)
  | _, _, .dK _ _ _, h => by cases h
  | _, _, .dT _ _ _, h => by cases h
  | _, _, .exc _, h => by cases h
theorem RDs.dp {K : Frag} {G : Hp} : ∀ {vs : List V} {ds : List D}, RDs K G vs ds → D.pls ds = true → DpAll K G vs (D.pys ds)
  | _, _, .nil, _ => .nil
  | _, _, .cons a b, h => by
    obtain ⟨h1, h2⟩ := Bool.and_eq_true_iff.mp (show (D.pl _ && D.pls _) = true from h)
    exact .cons (RD.dp a h1) (RDs.dp b h2)
end
mutual
theorem RD.lay {K : Frag} {G : Hp} : ∀ {v : V} {d : D}, RD K G v d → d.py.canLay0 = true
  | _, _, .non => rfl
  | _, _, .bl _ => rfl
  | _, _, .int _ => rfl
  | _, _, .str _ h _ => h
  | _, _, .tup _ _ r => RDs.lay r
  | _, _, .lst _ _ r => RDs.lay r
  | _, _, .arr _ _ r => RDs.lay r
  | _, _, .kt _ _ r => RDs.lay r
  | _, _, .dK _ _ _ => rfl
  | _, _, .dT _ _ _ => rfl
  | _, _, .exc _ => rfl
theorem RDs.lay {K : Frag} {G : Hp} : ∀ {vs : List V} {ds : List D}, RDs K G vs ds → PyData.canLayAll0 (D.pys ds) = true
  | _, _, .nil => rfl
  | _, _, .cons a b => Bool.and_eq_true_iff.mpr ⟨RD.lay a, RDs.lay b⟩
end

/-! ### operations on data -/
def dAdd : D → D → R D
  | .int i, .int j => .ok (.int (i + j))
  | .str x, .str y => if x.length + y.length ≤ sizeLine then .ok (.str (x ++ y)) else .stuck
  | .tup a, .tup b => if a.length + b.length ≤ sizeLine then .ok (.tup (a ++ b)) else .stuck
  | .lst a, .lst b => if a.length + b.length ≤ sizeLine then .ok (.lst (a ++ b)) else .stuck
  | _, _ => .stuck
def dSub : D → D → R D
  | .int i, .int j => .ok (.int (i - j))
  | _, _ => .stuck
def nrw (i : Int) : Bool := decide (-(2 ^ 64) < i ∧ i < 2 ^ 64)
/-- a text many times -/
def rept (x : Str) (n : Nat) : Str := ⟨((List.replicate n x.cps.toList).flatten).toArray⟩
def dMul : D → D → R D
  | .int i, .int j => if nrw i || nrw j then .ok (.int (i * j)) else .stuck
  | .str x, .int j => if 0 ≤ j ∧ j ≤ 1000 ∧ x.length ≤ 1000 then .ok (.str (rept x j.toNat)) else .stuck
  | .lst ds, .int j => if -(2 ^ 63) ≤ j ∧ j < 2 ^ 63 ∧ ds.length * j.toNat ≤ sizeLine then .ok (.lst (List.replicate j.toNat ds).flatten) else .stuck
  | _, _ => .stuck
def dMod : D → D → R D
  | .int i, .int j => if 0 < j then .ok (.int (i % j)) else .stuck
  | _, _ => .stuck
def dDiv : D → D → R D
  | .int i, .int j => if 0 < j ∧ j < 1073741824 then .ok (.int (i / j)) else .stuck
  | _, _ => .stuck
def dPow : D → D → R D
  | .int i, .int j => if 0 ≤ j ∧ j ≤ 1000000 ∧ i.natAbs < 2 ^ 64 then .ok (.int (i ^ j.toNat)) else .stuck
  | _, _ => .stuck
def dNeg : D → R D
  | .int i => .ok (.int (-i))
  | _ => .stuck
def dEq (a b : D) : R Bool := if a.pl && b.pl && decide (min a.dep b.dep ≤ 60) then .ok (D.eqv a b) else .stuck
def dInL (x : D) (ds : List D) : R Bool := if x.pl && D.pls ds && decide (min (PyData.depthAll (D.pys ds)) x.dep ≤ 60) then .ok (ds.any fun y => D.eqv y x) else .stuck
/-- the place of a key -/
def ktD1 : D → Option Key
  | .int i => some (.inl i)
  | .str x => some (.inr x)
  | _ => none
def ktD : List D → Option (List Key)
  | [] => some []
  | d :: ds => (ktD1 d).bind fun k => (ktD ds).map fun ks => k :: ks
def keyOf : Bool → D → Option (List Key)
  | false, .int i => some [.inl i]
  | false, .str x => some [.inr x]
  | true, .tup (d :: ds) => ktD (d :: ds)
  | _, _ => none
def lookK : List (List Key) → List D → List Key → Option D
  | k :: ks, d :: ds, q => if k = q then some d else lookK ks ds q
  | _, _, _ => none
def dIn : D → D → R Bool
  | x, .lst ds => dInL x ds
  | x, .tup ds => dInL x ds
  | x, .kt ds => dInL x ds
  | .str x, .str y => if x.length = 1 then .ok (y.cps.toList.any fun c => c == x.cps.getD 0 0) else .stuck
  | x, .dic t ks ds => R.of ((keyOf t x).map fun k => (lookK ks ds k).isSome)
  | _, _ => .stuck
def dLt : D → D → R Bool
  | .int i, .int j => .ok (decide (i < j))
  | .str x, .str y => .ok (decide (x.cps.toList < y.cps.toList))
  | _, _ => .stuck
def dLe : D → D → R Bool
  | .int i, .int j => .ok (decide (i ≤ j))
  | .str x, .str y => .ok (!decide (y.cps.toList < x.cps.toList))
  | _, _ => .stuck
def D.isN : D → Bool
  | .non => true
  | _ => false
def dIs : D → D → R Bool
  | x, .non => .ok x.isN
  | .bl a, .bl b => .ok (decide (a = b))
  | _, _ => .stuck
def dCmp : CmpOp → D → D → R Bool
  | .Eq, a, b => dEq a b
  | .NotEq, a, b => do let c ← dEq a b; pure (!c)
  | .Lt, a, b => dLt a b
  | .LtE, a, b => dLe a b
  | .Gt, a, b => dLt b a
  | .GtE, a, b => dLe b a
  | .In, a, b => dIn a b
  | .NotIn, a, b => do let c ← dIn a b; pure (!c)
  | .Is, a, b => dIs a b
  | .IsNot, a, b => do let c ← dIs a b; pure (!c)
def dBin : Operator → D → D → R D
  | .Add, a, b => dAdd a b
  | .Sub, a, b => dSub a b
  | .Mult, a, b => dMul a b
  | .Mod, a, b => dMod a b
  | .FloorDiv, a, b => dDiv a b
  | .Pow, a, b => dPow a b
  | _, _, _ => .stuck
def dTru : D → R Bool
  | .non => .ok false
  | .bl b => .ok b
  | .int i => .ok (i != 0)
  | .str x => .ok (x.length != 0)
  | .tup ds => .ok (!ds.isEmpty)
  | .lst ds => .ok (!ds.isEmpty)
  | .arr ds => .ok (!ds.isEmpty)
  | _ => .stuck
/-- a thing's place by an index of any sign -/
def dSub2 : D → D → R D
  | .tup ds, .int i => R.of (atI ds i)
  | .lst ds, .int i => R.of (atI ds i)
  | .arr ds, .int i => R.of (atI ds i)
  | .str x, .int i => R.of ((atI x.cps.toList i).map fun c => .str ⟨#[c]⟩)
  | .dic t ks ds, x => R.of ((keyOf t x).bind fun k => lookK ks ds k)
  | _, _ => .stuck
def cutD (xs : List D) (lo hi : Option Int) : List D := (xs.drop (HT.sIx xs.length 0 lo)).take (HT.sIx xs.length xs.length hi - HT.sIx xs.length 0 lo)
def dSl : D → Option Int → Option Int → R D
  | .tup ds, lo, hi => .ok (.tup (cutD ds lo hi))
  | .lst ds, lo, hi => .ok (.lst (cutD ds lo hi))
  | .str x, lo, hi => .ok (.str (cutS x lo hi))
  | _, _, _ => .stuck
def dLen : D → R D
  | .tup ds => .ok (.int ds.length)
  | .lst ds => .ok (.int ds.length)
  | .arr ds => .ok (.int ds.length)
  | .str x => .ok (.int x.length)
  | _ => .stuck

/-! ### data read now: frozen, or a list or dict of frozen items -/
inductive RB (K : Frag) (G H : Hp) : V → D → Prop
  | fz {v : V} {d : D} : RD K G v d → RB K G H v d
  | ol {a : Addr} {vs : List V} {ds : List D} : H a = some (.lst vs) → vs.length ≤ sizeLine → RDs K G vs ds → RB K G H (.ref a) (.lst ds)
  | odK {a : Addr} {kvs : List (Key × V)} {ds : List D} : H a = some (.dK kvs) → kvs.length ≤ sizeLine → RDs K G (kvs.map (·.2)) ds → RB K G H (.ref a) (.dic false (kvs.map fun p => [p.1]) ds)
  | odT {a : Addr} {kvs : List (List Key × V)} {ds : List D} : H a = some (.dT kvs) → kvs.length ≤ sizeLine → RDs K G (kvs.map (·.2)) ds → RB K G H (.ref a) (.dic true (kvs.map fun p => p.1) ds)
theorem RB.grow {K : Frag} {G H G' H' : Hp} {v : V} {d : D} (g : Grow G H G' H') : RB K G H v d → RB K G' H' v d
  | .fz r => .fz (r.mono g.g)
  | .ol h l r => .ol (g.h _ _ h) l (r.mono g.g)
  | .odK h l r => .odK (g.h _ _ h) l (r.mono g.g)
  | .odT h l r => .odT (g.h _ _ h) l (r.mono g.g)
theorem RB.now {K : Frag} {G H : Hp} {v : V} {d : D} (e : Same G H) : RB K G H v d → RD K H v d
  | .fz r => r.mono e
  | .ol h l r => .lst h l (r.mono e)
  | .odK h l r => .dK h l (r.mono e)
  | .odT h l r => .dT h l (r.mono e)
theorem RB.of_slot {K : Frag} {G H : Hp} {v : V} {d : D} {t : OT} {fp : List Addr} (ht : t = .fz ∨ t = .own .fz) (h : OW K G H v d t fp) : RB K G H v d := by
  cases h with
  | fz r => exact .fz r
  | ol h l r =>
    rcases ht with e | e
    · cases e
    · cases e; exact .ol h l r.unfz.1
  | odK h l r =>
    rcases ht with e | e
    · cases e
    · cases e; exact .odK h l r.unfz.1
  | odT h l r =>
    rcases ht with e | e
    · cases e
    · cases e; exact .odT h l r.unfz.1
theorem RB.tup {K : Frag} {G H : Hp} {v : V} {ds : List D} (h : RB K G H v (.tup ds)) : RD K G v (.tup ds) := by
  cases h with
  | fz r => exact r
/-- a list, now -/
theorem RB.lst {K : Frag} {G H : Hp} {v : V} {ds : List D} (e : Same G H) (h : RB K G H v (.lst ds)) : ∃ a vs, v = .ref a ∧ H a = some (.lst vs) ∧ vs.length ≤ sizeLine ∧ RDs K G vs ds := by
  cases h with
  | fz r => cases r with
    | lst s l r => exact ⟨_, _, rfl, e _ _ s, l, r⟩
  | ol h l r => exact ⟨_, _, rfl, h, l, r⟩
theorem RB.arr {K : Frag} {G H : Hp} {v : V} {ds : List D} (e : Same G H) (h : RB K G H v (.arr ds)) : ∃ a vs, v = .ref a ∧ SqL K H a vs ∧ vs.length ≤ sizeLine ∧ RDs K G vs ds := by
  cases h with
  | fz r => cases r with
    | arr s l r => exact ⟨_, _, rfl, e.seq s, l, r⟩

/-! ### readings -/
/-- x ends in a value of which P holds, or in an exception of which E does -/
def Done {α : Type} (x : R α) (P : α → Prop) (E : Str → Prop) : Prop := match x with
  | .ok a => P a
  | .exc c => E c
  | .stuck => False
theorem Done.bind {α β : Type} {x : R α} {y : α → R β} {P : β → Prop} {E : Str → Prop} (h : Done (x >>= y) P E) : Done x (fun a => Done (y a) P E) E := by
  cases x with
  | ok a => exact h
  | exc c => exact h
  | stuck => exact h
theorem Done.imp {α : Type} {x : R α} {P P' : α → Prop} {E E' : Str → Prop} (h : Done x P E) (hP : ∀ a, x = .ok a → P a → P' a) (hE : ∀ c, E c → E' c) : Done x P' E' := by
  cases x with
  | ok a => exact hP a rfl h
  | exc c => exact hE c h
  | stuck => exact h
theorem Done.ok {α : Type} {x : R α} {P : α → Prop} {E : Str → Prop} (h : Done x P E) (hx : ∀ c, x ≠ .exc c) : ∃ a, x = .ok a ∧ P a := by
  cases x with
  | ok a => exact ⟨a, rfl, h⟩
  | exc c => exact absurd rfl (hx c)
  | stuck => exact h.elim
theorem Done.opt {α : Type} {o : Option α} {P : α → Prop} {E : Str → Prop} (h : Done (R.of o) P E) : ∃ a, o = some a ∧ P a := by
  cases o with
  | none => exact h.elim
  | some a => exact ⟨a, rfl, h⟩
theorem Done.ite {α : Type} {p : Prop} [Decidable p] {x : R α} {P : α → Prop} {E : Str → Prop} (h : Done (if p then x else .stuck) P E) : p ∧ Done x P E := by
  by_cases q : p
  · rw [if_pos q] at h; exact ⟨q, h⟩
  · rw [if_neg q] at h; exact h.elim

/-- what is wanted of an exception out of an expression -/
abbrev XW (K : Frag) (W : WX) (G H : Hp) (σ : St) : Str → Prop := fun c => ∀ G' H', Grow G H G' H' → W (clsV K c) none σ H'
def tV (K : Frag) (B : Base) (W : WX) (Γ : Ow) (f : En → R D) : TE := fun σ H Q => ∃ s G, Rel K B Γ s G σ H ∧ Done (f s) (fun d => ∀ v G' H', Grow G H G' H' → RD K G' v d → Q v H') (XW K W G H σ)
def tBo (K : Frag) (B : Base) (W : WX) (Γ : Ow) (f : En → R D) : TE := fun σ H Q => ∃ s G, Rel K B Γ s G σ H ∧ Done (f s) (fun d => ∀ v G' H', Grow G H G' H' → RB K G' H' v d → Q v H') (XW K W G H σ)
/-- a thing just made, in cells that are new -/
def New (K : Frag) (H G' H' : Hp) (v : V) (d : D) (t : OT) : Prop := ∃ fq, OW K G' H' v d t fq ∧ fq.Nodup ∧ ∀ a ∈ fq, H a = none ∧ Cel H' a ∧ G' a = none
def tOw (K : Frag) (B : Base) (W : WX) (Γ : Ow) (t : OT) (f : En → R D) : TE := fun σ H Q => ∃ s G, Rel K B Γ s G σ H ∧ Done (f s) (fun d => ∀ v G' H', Grow G H G' H' → New K H G' H' v d t → Q v H') (XW K W G H σ)
def tTe (K : Frag) (B : Base) (W : WX) (Γ : Ow) (f : En → R Bool) : TT := fun σ H Q => ∃ s G, Rel K B Γ s G σ H ∧ Done (f s) (fun b => ∀ G' H', Grow G H G' H' → Q b H') (XW K W G H σ)
def tVs (K : Frag) (B : Base) (W : WX) (Γ : Ow) (f : En → R (List D)) : TA := fun σ H Q => ∃ s G, Rel K B Γ s G σ H ∧ Done (f s) (fun ds => ∀ vs G' H', Grow G H G' H' → RDs K G' vs ds → Q vs H') (XW K W G H σ)
theorem XW.grow {K : Frag} {W : WX} {G H G1 H1 : Hp} {σ : St} (g : Grow G H G1 H1) {c : Str} (h : XW K W G H σ c) : XW K W G1 H1 σ c := fun G' H' g' => h G' H' (g.trans g')

section
variable {X : Cx} {B : Base} {W : WX} {Γ : Ow} {e a b c : Expr} {f fa fb fc : En → R D} {pos : Pos}
theorem PE.imp {t t' : TE} (h : PE X e t) (k : ∀ σ H Q, t' σ H Q → t σ H Q) : PE X e t' := ⟨fun pins s σ H Q I q => h.run pins s σ H Q I (k σ H Q q)⟩
theorem PT.imp {t t' : TT} (h : PT X e t) (k : ∀ σ H Q, t' σ H Q → t σ H Q) : PT X e t' := ⟨fun pins s σ H Q I q => h.run pins s σ H Q I (k σ H Q q)⟩
theorem PW.imp {t t' : TT} (h : PW X e t) (k : ∀ σ H Q, t' σ H Q → t σ H Q) : PW X e t' := ⟨fun whole pins s σ H Q I q => h.run whole pins s σ H Q I (k σ H Q q)⟩
theorem PA.imp {es : List Expr} {t t' : TA} (h : PA X es t) (k : ∀ σ H Q, t' σ H Q → t σ H Q) : PA X es t' := ⟨fun pos pins s σ H Q I q => h.run pos pins s σ H Q I (k σ H Q q)⟩

abbrev EV (X : Cx) (B : Base) (W : WX) (Γ : Ow) (e : Expr) (f : En → R D) : Prop := PE X e (tV X.K B W Γ f)
abbrev EB (X : Cx) (B : Base) (W : WX) (Γ : Ow) (e : Expr) (f : En → R D) : Prop := PE X e (tBo X.K B W Γ f)
abbrev EO (X : Cx) (B : Base) (W : WX) (Γ : Ow) (t : OT) (e : Expr) (f : En → R D) : Prop := PE X e (tOw X.K B W Γ t f)
abbrev ET (X : Cx) (B : Base) (W : WX) (Γ : Ow) (e : Expr) (f : En → R Bool) : Prop := PT X e (tTe X.K B W Γ f)
abbrev EVs (X : Cx) (B : Base) (W : WX) (Γ : Ow) (es : List Expr) (f : En → R (List D)) : Prop := PA X es (tVs X.K B W Γ f)

/-- frozen things may be read -/
theorem EV.bo (h : EV X B W Γ e f) : EB X B W Γ e f := PE.imp h fun σ H Q ⟨s, G, r, k⟩ => ⟨s, G, r, k.imp (fun d _ k v G' H' g rd => k v G' H' g (.fz rd)) fun _ z => z⟩
/-- a thing just made is frozen -/
theorem EO.v {t : OT} (h : EO X B W Γ t e f) : EV X B W Γ e f := PE.imp h fun σ H Q ⟨s, G, r, k⟩ => ⟨s, G, r, k.imp (fun d _ k v G' H' g n => by
  obtain ⟨fq, ow, nd, ok⟩ := n
  have e1 : Same G' (join G' H' fq) := join_same fun a m => (ok a m).2.2
  refine k v (join G' H' fq) H' ⟨g.g.trans e1, g.h, join_le g.gh, fun a h1 h2 => ?_⟩ (ow.now e1 fun a m o z => by rw [join_in m]; exact z)
  rw [join_out fun m => h2.ne (ok a m).1]
  exact g.nw a h1 h2) fun _ z => z⟩

/-! ### names, constants -/
def eVar (i : Nat) : En → R D := fun s => R.of ((s[i]?).bind id)
theorem eVar_ok {i : Nat} {s : En} {P : D → Prop} {E : Str → Prop} (k : Done (eVar i s) P E) : ∃ d, s[i]? = some (some d) ∧ P d := by
  obtain ⟨d, e, h⟩ := Done.opt k
  refine ⟨d, ?_, h⟩
  cases q : s[i]? with
  | none => rw [q] at e; cases e
  | some o => rw [q] at e; exact congrArg some e
theorem ev_var {i : Nat} {x : Str} (hN : X.N[i]? = some x) (hv : Vis X.env.scope x) (h1 : (x == ("__debug__" : Str)) = false) (h2 : (x == ("__classdict__" : Str)) = false) (ho : oty Γ i = .fz) : EV X B W Γ (.Name x pos) (eVar i) :=
  PE.imp (pe_var hN hv h1 h2) fun σ H Q ⟨s, G, r, k⟩ => by
    obtain ⟨d, hd, k⟩ := eVar_ok k
    obtain ⟨v, e, _, rd⟩ := r.now hd
    exact ⟨v, e, k v G H (.refl r.GH) (rd ho)⟩
theorem eb_var {i : Nat} {x : Str} (hN : X.N[i]? = some x) (hv : Vis X.env.scope x) (h1 : (x == ("__debug__" : Str)) = false) (h2 : (x == ("__classdict__" : Str)) = false) (ho : oty Γ i = .fz ∨ oty Γ i = .own .fz) : EB X B W Γ (.Name x pos) (eVar i) :=
  PE.imp (pe_var hN hv h1 h2) fun σ H Q ⟨s, G, r, k⟩ => by
    obtain ⟨d, hd, k⟩ := eVar_ok k
    obtain ⟨φ, sl, _⟩ := r.sl
    obtain ⟨v, e, ow⟩ := sl.at_ _ _ hd
    exact ⟨v, e, k v G H (.refl r.GH) (.of_slot ho ow)⟩
def eCon (d : D) : En → R D := fun _ => .ok d
theorem ev_con {v : V} {d : D} (h : PE X e (tC v)) (hd : ∀ G : Hp, RD X.K G v d) : EV X B W Γ e (eCon d) :=
  PE.imp h fun σ H Q ⟨s, G, r, k⟩ => k v G H (.refl r.GH) (hd G)

/-! ### operators -/
def eBin (g : D → D → R D) (fa fb : En → R D) : En → R D := fun s => fa s >>= fun x => fb s >>= fun y => g x y
/-- what a rule by values must give: the data's operation -/
def OpD (K : Frag) (r : R2) (g : D → D → R D) : Prop := ∀ (x y : V) (dx dy d : D) (G H : Hp) (Q : VK), Same G H → RB K G H x dx → RB K G H y dy → g dx dy = .ok d →
  (∀ v G' H', Grow G H G' H' → RD K G' v d → Q v H') → r x y H Q
theorem two {r : R2} {g : D → D → R D} (hr : OpD X.K r g) (hx : ∀ x y c, g x y ≠ .exc c) : ∀ σ H Q, tV X.K B W Γ (eBin g fa fb) σ H Q → tOp r (tBo X.K B W Γ fa) (tBo X.K B W Γ fb) σ H Q := by
  rintro σ H Q ⟨s, G, rl, k⟩
  refine ⟨s, G, rl, k.bind.imp (fun da _ k x G1 H1 g1 rx => ?_) fun _ z => z⟩
  refine ⟨s, G1, rl.grow g1, k.bind.imp (fun db _ k y G2 H2 g2 ry => ?_) fun _ z => XW.grow g1 z⟩
  obtain ⟨d, e, k⟩ := k.ok (hx _ _)
  exact hr x y da db d G2 H2 Q g2.gh (rx.grow g2) ry e fun v G3 H3 g3 rd => k v G3 H3 ((g1.trans g2).trans g3) rd
theorem ev_op {op : Operator} {r : R2} {g : D → D → R D} (ho : OpR X (binaryOp op) r) (hr : OpD X.K r g) (hx : ∀ x y c, g x y ≠ .exc c) (ha : EB X B W Γ a fa) (hb : EB X B W Γ b fb) : EV X B W Γ (.BinOp a op b pos) (eBin g fa fb) :=
  PE.imp (pe_op ho ha hb) (two hr hx)
end
end Hr

end
section
/-! HrC: operators, comparisons, subscripts, slices by data -/
namespace Hr
open PySem PySem.Spec L2
section
variable {X : Cx} {B : Base} {W : WX} {Γ : Ow} {e a b c : Expr} {f fa fb fc : En → R D} {pos : Pos}

theorem RD.int_inv {K : Frag} {G : Hp} {v : V} {i : Int} (h : RD K G v (.int i)) : v = .int i := by cases h; rfl
theorem RD.str_inv {K : Frag} {G : Hp} {v : V} {x : Str} (h : RD K G v (.str x)) : v = .str x ∧ PyData.strOk x = true ∧ x.length ≤ sizeLine := by cases h with | str _ h1 h2 => exact ⟨rfl, h1, h2⟩
theorem RD.bl_inv {K : Frag} {G : Hp} {v : V} {x : Bool} (h : RD K G v (.bl x)) : v = .bl x := by cases h; rfl
theorem RD.non_inv {K : Frag} {G : Hp} {v : V} (h : RD K G v .non) : v = .non := by cases h; rfl
theorem RD.tup_inv {K : Frag} {G : Hp} {v : V} {ds : List D} (h : RD K G v (.tup ds)) : ∃ a vs, v = .ref a ∧ PlT G a vs ∧ vs.length ≤ sizeLine ∧ RDs K G vs ds := by cases h with | tup s l r => exact ⟨_, _, rfl, s, l, r⟩
theorem RB.rd {K : Frag} {G H : Hp} {v : V} {d : D} (h : RB K G H v d) (hd : (match d with | .lst _ => false | .dic _ _ _ => false | _ => true) = true) : RD K G v d := by
  cases h with
  | fz r => exact r
  | ol _ _ _ => cases hd
  | odK _ _ _ => cases hd
  | odT _ _ _ => cases hd
theorem RB.int {K : Frag} {G H : Hp} {v : V} {i : Int} (h : RB K G H v (.int i)) : v = .int i := (h.rd rfl).int_inv
theorem RB.str {K : Frag} {G H : Hp} {v : V} {x : Str} (h : RB K G H v (.str x)) : v = .str x ∧ PyData.strOk x = true ∧ x.length ≤ sizeLine := (h.rd rfl).str_inv
theorem RB.bl {K : Frag} {G H : Hp} {v : V} {x : Bool} (h : RB K G H v (.bl x)) : v = .bl x := (h.rd rfl).bl_inv
theorem RB.non {K : Frag} {G H : Hp} {v : V} (h : RB K G H v .non) : v = .non := (h.rd rfl).non_inv

theorem RDs.len_le {K : Frag} {G : Hp} {vs : List V} {ds : List D} (r : RDs K G vs ds) {n : Nat} (h : ds.length ≤ n) : vs.length ≤ n := by rw [r.length]; exact h

/-- a new list, tuple of frozen things -/
theorem new_lst {K : Frag} {G H : Hp} {p : Addr} {vs : List V} {ds : List D} (e : Same G H) (hp : H p = none) (l : vs.length ≤ sizeLine) (r : RDs K G vs ds) : Grow G H (upd G p (.lst vs)) (upd H p (.lst vs)) ∧ RD K (upd G p (.lst vs)) (.ref p) (.lst ds) :=
  have g : Grow G H (upd G p (.lst vs)) (upd H p (.lst vs)) := Grow.new e hp
  ⟨g, .lst upd_same l (r.mono g.g)⟩
theorem new_tup {K : Frag} {G H : Hp} {p : Addr} {us : List Value} {vs : List V} {ds : List D} (e : Same G H) (hp : H p = none) (l : vs.length ≤ sizeLine) (r : RDs K G vs ds) : Grow G H (upd G p (pT us vs)) (upd H p (pT us vs)) ∧ RD K (upd G p (pT us vs)) (.ref p) (.tup ds) :=
  have g : Grow G H (upd G p (pT us vs)) (upd H p (pT us vs)) := Grow.new e hp
  ⟨g, .tup ⟨us, upd_same⟩ l (r.mono g.g)⟩
/-- t + u -/
def rCatP (K : Frag) : R2 := fun x y H Q => ∃ a b xs ys, x = .ref a ∧ y = .ref b ∧ SqT K H a xs ∧ SqT K H b ys ∧ xs.length + ys.length ≤ sizeLine ∧
  (xs = [] → Q (.ref b) H) ∧ (xs ≠ [] → ys = [] → Q (.ref a) H) ∧ (xs ≠ [] → ys ≠ [] → ∀ p us, H p = none → Q (.ref p) (upd H p (pT us (xs ++ ys))))
theorem op_catP : OpR X (binaryOp .Add) (rCatP X.K) := by
  intro pins s σ H x y v u Q I rx ry h
  obtain ⟨a, b, xs, ys, rfl, rfl, ha, hb, hz, q0, q1, q2⟩ := h
  cases rx
  cases ry
  obtain ⟨its, r1, p1, _⟩ := I.tuple ha
  obtain ⟨its2, r2, p2, _⟩ := I.tuple hb
  by_cases hx : xs = []
  · subst hx
    cases r1
    exact cat_tup0 p1 p2 ⟨.ref b, H, I, rfl, q0 rfl⟩
  · refine HT.cat_tup p1 p2 (fun z => hx (r1.nil_iff.mp z)) (fun z => ⟨.ref a, H, I, rfl, q1 hx (r2.nil_iff.mp z)⟩) (fun z => ?_) (by rw [← r1.length, ← r2.length]; exact hz)
    refine ⟨.ref s.heap.objs.size, _, I.laid (t' := s.toks) (o := pT (its ++ its2) (xs ++ ys)) (fun b ob q => Heap.get?_push_of_some _ q) (Nat.le_refl _) ?_, rfl, q2 hx (fun w => z (r2.nil_iff.mpr w)) _ _ (I.hok.fresh (Nat.le_refl _))⟩
    exact pT_ok ⟨Heap.get?_push_size _ rfl, by rw [List.length_append]; exact hz, _, r1.append r2, PyProof.Rows.IsTup.new _ _⟩

theorem strOk_append {x y : Str} (hx : PyData.strOk x = true) (hy : PyData.strOk y = true) : PyData.strOk (x ++ y) = true := by
  have e : (x ++ y).cps = x.cps ++ y.cps := rfl
  unfold PyData.strOk at *
  rw [e, Array.all_append, hx, hy]; rfl
theorem strOk_list {x : Str} : PyData.strOk x = true ↔ ∀ c ∈ x.cps.toList, c < 0x110000 := by
  unfold PyData.strOk
  rw [Array.all_eq_true_iff_forall_mem]
  simp
theorem length_str (x : Str) : x.length = x.cps.toList.length := by
  show x.cps.size = _
  rw [Array.length_toList]

theorem length_append_str (x y : Str) : (x ++ y).length = x.length + y.length := by
  show (x.cps ++ y.cps).size = _
  rw [Array.size_append]; rfl
/-! ### + - * % // ** -/
abbrev rAddD (K : Frag) : R2 := fun x y H Q => (rI0 fun i j => .int (i + j)) x y H Q ∨ ((∃ i j, x = .str i ∧ y = .str j ∧ i.length + j.length ≤ sizeLine ∧ Q (.str (i ++ j)) H) ∨ (rCatP K x y H Q ∨ rCat x y H Q))
theorem op_addD : OpR X (binaryOp .Add) (rAddD X.K) := op_add.or (op_add_str.or (op_catP.or op_cat))
theorem opd_add {K : Frag} : OpD K (rAddD K) dAdd := by
  intro x y dx dy d G H Q e rx ry hg k
  unfold dAdd at hg
  split at hg
  · cases hg
    cases rx.int; cases ry.int
    exact .inl ⟨_, _, rfl, rfl, k _ G H (.refl e) (.int _)⟩
  · split at hg
    · rename_i hl
      cases hg
      obtain ⟨rfl, o1, _⟩ := rx.str
      obtain ⟨rfl, o2, _⟩ := ry.str
      exact .inr (.inl ⟨_, _, rfl, rfl, hl, k _ G H (.refl e) (.str _ (strOk_append o1 o2) (by rw [length_append_str]; exact hl))⟩)
    · cases hg
  · split at hg
    · rename_i hl
      cases hg
      have rx := rx.tup
      have ry := ry.tup
      obtain ⟨p, vs, rfl, s1, l1, r1⟩ := rx.tup_inv
      obtain ⟨q, ws, rfl, s2, l2, r2⟩ := ry.tup_inv
      refine .inr (.inr (.inl ⟨p, q, vs, ws, rfl, rfl, (s1.same e).sq, (s2.same e).sq, by rw [r1.length, r2.length]; exact hl, fun z => ?_, fun z z2 => ?_, fun _ _ c us hc => ?_⟩))
      · subst z
        cases r1
        exact k _ G H (.refl e) ry
      · subst z2
        cases r2
        rw [List.append_nil] at k
        exact k _ G H (.refl e) rx
      · obtain ⟨g, rd⟩ := new_tup (K := K) e hc (by rw [List.length_append, r1.length, r2.length]; exact hl) (r1.append r2)
        exact k _ _ _ g rd
    · cases hg
  · split at hg
    · rename_i hl
      cases hg
      obtain ⟨p, vs, rfl, s1, l1, r1⟩ := rx.lst e
      obtain ⟨q, ws, rfl, s2, l2, r2⟩ := ry.lst e
      refine .inr (.inr (.inr ⟨p, q, vs, ws, rfl, rfl, s1, s2, by rw [r1.length, r2.length]; exact hl, fun c hc => ?_⟩))
      obtain ⟨g, rd⟩ := new_lst (K := K) e hc (by rw [List.length_append, r1.length, r2.length]; exact hl) (r1.append r2)
      exact k _ _ _ g rd
    · cases hg
  · cases hg
theorem opd_sub {K : Frag} : OpD K (rI0 fun i j => .int (i - j)) dSub := by
  intro x y dx dy d G H Q e rx ry hg k
  unfold dSub at hg
  split at hg
  · cases hg
    cases rx.int; cases ry.int
    exact ⟨_, _, rfl, rfl, k _ G H (.refl e) (.int _)⟩
  · cases hg
theorem opd_mod {K : Frag} : OpD K (rI (fun _ j => 0 < j) fun i j => .int (i % j)) dMod := by
  intro x y dx dy d G H Q e rx ry hg k
  unfold dMod at hg
  split at hg
  · split at hg
    · rename_i hj
      cases hg
      cases rx.int; cases ry.int
      exact ⟨_, _, rfl, rfl, hj, k _ G H (.refl e) (.int _)⟩
    · cases hg
  · cases hg
theorem opd_div {K : Frag} : OpD K (rI CDiv fun i j => .int (i / j)) dDiv := by
  intro x y dx dy d G H Q e rx ry hg k
  unfold dDiv at hg
  split at hg
  · split at hg
    · rename_i hj
      cases hg
      cases rx.int; cases ry.int
      exact ⟨_, _, rfl, rfl, hj, k _ G H (.refl e) (.int _)⟩
    · cases hg
  · cases hg
theorem opd_pow {K : Frag} : OpD K (rI CPow fun i j => .int (i ^ j.toNat)) dPow := by
  intro x y dx dy d G H Q e rx ry hg k
  unfold dPow at hg
  split at hg
  · split at hg
    · rename_i hj
      cases hg
      cases rx.int; cases ry.int
      exact ⟨_, _, rfl, rfl, hj, k _ G H (.refl e) (.int _)⟩
    · cases hg
  · cases hg
/-- a text many times -/
theorem op_mul_str : OpR X (binaryOp .Mult) (fun x y H Q => ∃ z j, x = .str z ∧ y = .int j ∧ (0 ≤ j ∧ j ≤ 1000 ∧ z.length ≤ 1000) ∧ Q (.str (rept z j.toNat)) H) := by
  intro pins s σ H x y v u Q I rx ry h
  obtain ⟨z, j, rfl, rfl, ⟨h0, h1, h2⟩, q⟩ := h
  obtain ⟨t, rfl⟩ := rx
  obtain ⟨t', rfl⟩ := ry
  have hle : z.length * j.toNat ≤ 1000000 := by
    have : j.toNat ≤ 1000 := by omega
    calc z.length * j.toNat ≤ 1000 * 1000 := Nat.mul_le_mul h2 this
      _ = 1000000 := rfl
  have hm : MulOk z j := by
    refine ⟨?_, fun a b => ?_, fun a b => ?_⟩
    · rw [Bool.or_eq_false_iff]
      exact ⟨decide_eq_false (by omega), decide_eq_false (by omega)⟩
    · have hj : 1 ≤ j := by omega
      have : (2 ^ 63 - 1) / j ≥ (2 ^ 63 - 1) / 1000 := by
        apply Int.le_ediv_of_mul_le (by omega)
        have h3 : ((2 : Int) ^ 63 - 1) / 1000 * j ≤ (2 ^ 63 - 1) / 1000 * 1000 := Int.mul_le_mul_of_nonneg_left h1 (by decide)
        exact Int.le_trans h3 (by decide)
      have h4 : ((2 : Int) ^ 63 - 1) / 1000 ≥ 1000 := by decide
      omega
    · unfold Builtin.Str.tooLong
      have := sizeLine_eq
      simp only [decide_eq_false_iff_not]
      omega
  have e : Txt.mul z j = rept z j.toNat := by
    have hcps : ∀ (n : Nat) (w : Array Nat), List.foldl (· ++ ·) w (List.replicate n z.cps) = w ++ ((List.replicate n z.cps.toList).flatten).toArray := by
      intro n
      induction n with
      | zero => intro w; simp
      | succ n ih =>
        intro w
        rw [List.replicate_succ, List.foldl_cons, ih, List.replicate_succ, List.flatten_cons]
        apply Array.ext'
        simp
    unfold Txt.mul rept
    by_cases c1 : j < 1
    · have : j.toNat = 0 := by omega
      rw [if_pos c1, this]; rfl
    · rw [if_neg c1]
      by_cases c2 : (j == 1 || z.length == 0) = true
      · rw [if_pos c2]
        rcases Bool.or_eq_true_iff.mp c2 with c | c
        · have : j = 1 := by simpa using c
          subst this
          obtain ⟨⟨l⟩⟩ := z
          simp
        · have hz : z.cps = #[] := by
            have : z.cps.size = 0 := by
              have c' : z.length = 0 := by simpa using c
              exact c'
            exact Array.eq_empty_of_size_eq_zero this
          obtain ⟨l⟩ := z
          dsimp only at hz
          subst hz
          simp
      · rw [if_neg c2, hcps]
        simp
  exact SB.mul hm fun t'' k => ⟨.str _, H, I.tok k, ⟨t'', by rw [e]⟩, q⟩
abbrev rMulD : R2 := fun x y H Q => (rI CMul fun i j => .int (i * j)) x y H Q ∨ ((∃ z j, x = .str z ∧ y = .int j ∧ (0 ≤ j ∧ j ≤ 1000 ∧ z.length ≤ 1000) ∧ Q (.str (rept z j.toNat)) H) ∨ rRep x y H Q)
theorem op_mulD : OpR X (binaryOp .Mult) rMulD := op_mul.or (op_mul_str.or op_rep)
theorem RDs.rep {K : Frag} {G : Hp} {vs : List V} {ds : List D} (r : RDs K G vs ds) : ∀ n : Nat, RDs K G (List.replicate n vs).flatten (List.replicate n ds).flatten
  | 0 => .nil
  | n + 1 => by
    rw [List.replicate_succ, List.replicate_succ, List.flatten_cons, List.flatten_cons]
    exact r.append (RDs.rep r n)
theorem flatten_rep_length {α : Type} (l : List α) : ∀ n : Nat, (List.replicate n l).flatten.length = l.length * n
  | 0 => rfl
  | n + 1 => by
    rw [List.replicate_succ, List.flatten_cons, List.length_append, flatten_rep_length l n, Nat.mul_succ, Nat.add_comm]
theorem opd_mul {K : Frag} : OpD K rMulD dMul := by
  intro x y dx dy d G H Q e rx ry hg k
  unfold dMul at hg
  split at hg
  · split at hg
    · rename_i hj
      cases hg
      cases rx.int; cases ry.int
      refine .inl ⟨_, _, rfl, rfl, ?_, k _ G H (.refl e) (.int _)⟩
      rcases Bool.or_eq_true_iff.mp hj with z | z
      · exact .inl (of_decide_eq_true z)
      · exact .inr (of_decide_eq_true z)
    · cases hg
  · split at hg
    · rename_i z j hj
      cases hg
      obtain ⟨rfl, o1, _⟩ := rx.str
      cases ry.int
      refine .inr (.inl ⟨_, _, rfl, rfl, hj, k _ G H (.refl e) (.str _ ?_ ?_)⟩)
      · rw [strOk_list] at o1 ⊢
        intro c hc
        unfold rept at hc
        simp only [List.mem_flatten, List.mem_replicate] at hc
        obtain ⟨l, ⟨_, rfl⟩, m⟩ := hc
        exact o1 c m
      · rw [length_str]
        unfold rept
        simp only []
        rw [flatten_rep_length, ← length_str]
        have := sizeLine_eq
        have h2 : j.toNat ≤ 1000 := by omega
        calc z.length * j.toNat ≤ 1000 * 1000 := Nat.mul_le_mul hj.2.2 h2
          _ ≤ sizeLine := by rw [this]; decide
    · cases hg
  · split at hg
    · rename_i ds j hj
      cases hg
      obtain ⟨p, vs, rfl, s1, l1, r1⟩ := rx.lst e
      cases ry.int
      refine .inr (.inr ⟨p, _, vs, rfl, rfl, s1, hj.1, hj.2.1, by rw [r1.length]; exact hj.2.2, fun c hc => ?_⟩)
      obtain ⟨g, rd⟩ := new_lst (K := K) e hc (by rw [flatten_rep_length, r1.length]; exact hj.2.2) (r1.rep j.toNat)
      exact k _ _ _ g rd
    · cases hg
  · cases hg
theorem dBin_noexc (op : Operator) (x y : D) (c : Str) : dBin op x y ≠ .exc c := by
  unfold dBin
  cases op <;> dsimp only <;> (first | (unfold dAdd) | (unfold dSub) | (unfold dMul) | (unfold dMod) | (unfold dDiv) | (unfold dPow) | skip) <;> (repeat' split) <;> exact fun z => nomatch z
theorem ev_bin {op : Operator} (hop : (match op with | .Add => true | .Sub => true | .Mult => true | .Mod => true | .FloorDiv => true | .Pow => true | _ => false) = true) (ha : EB X B W Γ a fa) (hb : EB X B W Γ b fb) : EV X B W Γ (.BinOp a op b pos) (eBin (dBin op) fa fb) := by
  cases op with
  | Add => exact ev_op op_addD opd_add (dBin_noexc .Add) ha hb
  | Sub => exact ev_op op_sub opd_sub (dBin_noexc .Sub) ha hb
  | Mult => exact ev_op op_mulD opd_mul (dBin_noexc .Mult) ha hb
  | Mod => exact ev_op op_mod opd_mod (dBin_noexc .Mod) ha hb
  | FloorDiv => exact ev_op op_fdiv opd_div (dBin_noexc .FloorDiv) ha hb
  | Pow => exact ev_op op_pow opd_pow (dBin_noexc .Pow) ha hb
  | _ => cases hop
/-- -a -/
def eNeg (fa : En → R D) : En → R D := fun s => fa s >>= dNeg
theorem dNeg_noexc (x : D) (c : Str) : dNeg x ≠ .exc c := by unfold dNeg; split <;> exact fun z => nomatch z
theorem ev_neg (ha : EB X B W Γ a fa) : EV X B W Γ (.UnaryOp .USub a pos) (eNeg fa) := by
  refine PE.imp (pe_un un_neg ha) ?_
  rintro σ H Q ⟨s, G, rl, k⟩
  refine ⟨s, G, rl, k.bind.imp (fun da _ k x G1 H1 g1 rx => ?_) fun _ z => z⟩
  obtain ⟨d, e, k⟩ := k.ok (dNeg_noexc _)
  unfold dNeg at e
  split at e
  · cases e
    cases rx.int
    exact ⟨_, rfl, k _ G1 H1 g1 (.int _)⟩
  · cases e
end
end Hr

end
section
/-! HrD: comparisons by data, tests, and, or, not -/
namespace Hr
open PySem PySem.Spec L2
section
variable {X : Cx} {B : Base} {W : WX} {Γ : Ow} {e a b c : Expr} {f fa fb fc : En → R D} {pos : Pos}

abbrev rCmpD (K : Frag) (g : D → D → R Bool) : R2 := fun x y H Q => ∃ dx dy b G, Same G H ∧ RB K G H x dx ∧ RB K G H y dy ∧ g dx dy = .ok b ∧ Q (.bl b) H

theorem dEq_inv {dx dy : D} {b : Bool} (h : dEq dx dy = .ok b) : dx.pl = true ∧ dy.pl = true ∧ min dx.dep dy.dep ≤ 60 ∧ b = D.eqv dx dy := by
  unfold dEq at h
  split at h
  · rename_i q
    simp only [Bool.and_eq_true, decide_eq_true_eq] at q
    cases h
    exact ⟨q.1.1, q.1.2, q.2, rfl⟩
  · cases h
theorem op_eqM (hu : X.A.units + 64 < cLine) : OpR X (compareOp .Eq) (rCmpD X.K dEq) := by
  intro pins s σ H x y v u Q I rx ry h
  obtain ⟨dx, dy, b, G, e, r1, r2, hb, q⟩ := h
  obtain ⟨p1, p2, hm, rfl⟩ := dEq_inv hb
  obtain ⟨as, q1⟩ := Dp.reads I _ x v ((r1.now e).dp p1) rx
  obtain ⟨bs, q2⟩ := Dp.reads I _ y u ((r2.now e).dp p2) ry
  refine SeqAt.compareEq_reads q1 q2 (r1.now e).lay (r2.now e).lay ?_ ⟨.bl _, H, I, rfl, q⟩
  unfold D.dep at hm
  omega
theorem op_neM (hu : X.A.units + 64 < cLine) : OpR X (compareOp .NotEq) (rCmpD X.K fun a b => do let c ← dEq a b; pure (!c)) := by
  intro pins s σ H x y v u Q I rx ry h
  obtain ⟨dx, dy, b, G, e, r1, r2, hb, q⟩ := h
  dsimp only at hb
  cases hq : dEq dx dy with
  | exc c => rw [hq] at hb; cases hb
  | stuck => rw [hq] at hb; cases hb
  | ok b' =>
    rw [hq] at hb
    have hb' : (!b') = b := by simpa using hb
    subst hb'
    obtain ⟨p1, p2, hm, rfl⟩ := dEq_inv hq
    obtain ⟨as, q1⟩ := Dp.reads I _ x v ((r1.now e).dp p1) rx
    obtain ⟨bs, q2⟩ := Dp.reads I _ y u ((r2.now e).dp p2) ry
    refine SeqAt.compareNe_reads q1 q2 (r1.now e).lay (r2.now e).lay ?_ ⟨.bl _, H, I, rfl, q⟩
    unfold D.dep at hm
    omega
theorem any_pys (x : D) : ∀ ds : List D, ((D.pys ds).any fun y => PyData.eqv y x.py) = ds.any fun y => D.eqv y x
  | [] => rfl
  | d :: ds => by
    show (PyData.eqv d.py x.py || (D.pys ds).any _) = (D.eqv d x || ds.any _)
    rw [any_pys x ds]; rfl
theorem dInL_inv {x : D} {ds : List D} {b : Bool} (h : dInL x ds = .ok b) : x.pl = true ∧ D.pls ds = true ∧ min (PyData.depthAll (D.pys ds)) x.dep ≤ 60 ∧ b = ds.any fun y => D.eqv y x := by
  unfold dInL at h
  split at h
  · rename_i q
    simp only [Bool.and_eq_true, decide_eq_true_eq] at q
    cases h
    exact ⟨q.1.1, q.1.2, q.2, rfl⟩
  · cases h

/-- a key of a dict, as a value -/
theorem keyOf_K {K : Frag} {G : Hp} {v : V} {d : D} {k : List Key} (r : RD K G v d) (h : keyOf false d = some k) : ∃ q, k = [q] ∧ v = kV q := by
  cases d with
  | int i => cases h; exact ⟨_, rfl, r.int_inv⟩
  | str x => cases h; exact ⟨_, rfl, r.str_inv.1⟩
  | _ => cases h
def key1 : D → Option Key
  | .int i => some (Sum.inl i)
  | .str x => some (Sum.inr x)
  | _ => none
def keys1 : List D → Option (List Key)
  | [] => some []
  | d :: ds => (key1 d).bind fun k => (keys1 ds).map fun ks => k :: ks
theorem keys1_vals {K : Frag} {G : Hp} : ∀ {vs : List V} {ds : List D} {ks : List Key}, RDs K G vs ds → keys1 ds = some ks → vs = ks.map kV
  | _, _, _, .nil, h => by cases h; rfl
  | _, _, ks, .cons (d := d) (ds := ds) a b, h => by
    unfold keys1 at h
    cases h1 : key1 d with
    | none => rw [h1] at h; cases h
    | some k =>
      rw [h1] at h
      cases h2 : keys1 ds with
      | none => rw [h2] at h; cases h
      | some ks' =>
        rw [h2] at h
        cases h
        have e2 := keys1_vals b h2
        cases d with
        | int i => cases h1; rw [a.int_inv, e2]; rfl
        | str x => cases h1; rw [a.str_inv.1, e2]; rfl
        | _ => cases h1
theorem ktD_vs {K : Frag} {G : Hp} : ∀ {vs : List V} {ds : List D} {k : List Key}, RDs K G vs ds → ktD ds = some k → vs = k.map kV ∧ vs.all isKV = true
  | _, _, _, .nil, h => by cases h; exact ⟨rfl, rfl⟩
  | _, _, k, .cons (d := d) (ds := ds) a b, h => by
    have h : (ktD1 d).bind (fun k => (ktD ds).map fun ks => k :: ks) = some k := h
    cases q : ktD1 d with
    | none => rw [q] at h; cases h
    | some k1 =>
      rw [q] at h
      have h : (ktD ds).map (fun ks => k1 :: ks) = some k := h
      cases q2 : ktD ds with
      | none => rw [q2] at h; cases h
      | some k2 =>
        rw [q2] at h
        cases h
        obtain ⟨e1, e2⟩ := ktD_vs b q2
        subst e1
        cases a with
        | int i => cases q; exact ⟨rfl, by rw [List.all_cons, e2]; rfl⟩
        | str x _ _ => cases q; exact ⟨rfl, by rw [List.all_cons, e2]; rfl⟩
        | _ => cases q
theorem keyOf_T {K : Frag} {G : Hp} {v : V} {d : D} {k : List Key} (r : RD K G v d) (h : keyOf true d = some k) : ∃ b, v = .ref b ∧ G b = some (.tup (k.map kV)) := by
  cases d with
  | tup ds =>
    cases ds with
    | nil => cases h
    | cons d ds =>
      have h : ktD (d :: ds) = some k := h
      obtain ⟨a, vs, rfl, ⟨us, z⟩, _, rs⟩ := r.tup_inv
      obtain ⟨e1, e2⟩ := ktD_vs rs h
      have hk : keyVs vs = true := by
        unfold keyVs
        rw [e2]
        cases rs
        rfl
      rw [pT_key hk] at z
      exact ⟨a, rfl, by rw [← e1]; exact z⟩
  | _ => cases h
theorem lookK_dK {K : Frag} {G : Hp} {q : Key} : ∀ {kvs : List (Key × V)} {ds : List D}, RDs K G (kvs.map (·.2)) ds →
    match lookK (kvs.map fun p => [p.1]) ds [q] with
    | some d => ∃ v, valV kvs q = some v ∧ RD K G v d
    | none => valV kvs q = none
  | [], _, .nil => rfl
  | p :: kvs, d :: ds, .cons a b => by
    have ih := lookK_dK (q := q) b
    show match (if [p.1] = [q] then some d else lookK (kvs.map fun p => [p.1]) ds [q]) with | some d => _ | none => _
    by_cases h : p.1 = q
    · rw [if_pos (by rw [h]), valV_pos h]
      exact ⟨_, rfl, a⟩
    · rw [if_neg (fun z => h (by injection z)), valV_neg h]
      exact ih
theorem lookK_dT {K : Frag} {G : Hp} {q : List Key} : ∀ {kvs : List (List Key × V)} {ds : List D}, RDs K G (kvs.map (·.2)) ds →
    match lookK (kvs.map fun p => p.1) ds q with
    | some d => ∃ v, valV kvs q = some v ∧ RD K G v d
    | none => valV kvs q = none
  | [], _, .nil => rfl
  | p :: kvs, d :: ds, .cons a b => by
    have ih := lookK_dT (q := q) b
    show match (if p.1 = q then some d else lookK (kvs.map fun p => p.1) ds q) with | some d => _ | none => _
    by_cases h : p.1 = q
    · rw [if_pos h, valV_pos h]
      exact ⟨_, rfl, a⟩
    · rw [if_neg h, valV_neg h]
      exact ih
theorem RB.dic {K : Frag} {G H : Hp} {v : V} {t : Bool} {ks : List (List Key)} {ds : List D} (e : Same G H) (h : RB K G H v (.dic t ks ds)) :
    (t = false ∧ ∃ a kvs, v = .ref a ∧ H a = some (.dK kvs) ∧ kvs.length ≤ sizeLine ∧ ks = (kvs.map fun p => [p.1]) ∧ RDs K G (kvs.map (·.2)) ds) ∨
    (t = true ∧ ∃ a kvs, v = .ref a ∧ H a = some (.dT kvs) ∧ kvs.length ≤ sizeLine ∧ ks = (kvs.map fun p => p.1) ∧ RDs K G (kvs.map (·.2)) ds) := by
  cases h with
  | fz r => cases r with
    | dK s l r => exact .inl ⟨rfl, _, _, rfl, e _ _ s, l, rfl, r⟩
    | dT s l r => exact .inr ⟨rfl, _, _, rfl, e _ _ s, l, rfl, r⟩
  | odK h l r => exact .inl ⟨rfl, _, _, rfl, h, l, rfl, r⟩
  | odT h l r => exact .inr ⟨rfl, _, _, rfl, h, l, rfl, r⟩
/-- a dict asked for a key -/
theorem dget_of {K : Frag} {G H : Hp} {x y : V} {t : Bool} {ks : List (List Key)} {ds : List D} {d : D} {k : List Key} (e : Same G H) (hd : RB K G H x (.dic t ks ds)) (hy : RB K G H y d) (hk : keyOf t d = some k) :
    ∃ a o, x = .ref a ∧ DGet H a y o ∧ match lookK ks ds k with | some d' => ∃ v, o = some v ∧ RD K G v d' | none => o = none := by
  have ry : RD K G y d := by
    refine hy.rd ?_
    cases t <;> cases d <;> first | rfl | cases hk
  rcases hd.dic e with ⟨rfl, a, kvs, rfl, hH, l, rfl, rs⟩ | ⟨rfl, a, kvs, rfl, hH, l, rfl, rs⟩
  · obtain ⟨q, rfl, rfl⟩ := keyOf_K ry hk
    exact ⟨a, _, rfl, .k hH, lookK_dK rs⟩
  · obtain ⟨b, rfl, hb⟩ := keyOf_T ry hk
    exact ⟨a, _, rfl, .t hH (e _ _ hb), lookK_dT rs⟩

theorem any_sign (c : Nat) (l : List Nat) : (l.any fun z => z == c) = decide (c ∈ l) := by
  rw [Bool.eq_iff_iff]
  simp only [List.any_eq_true, beq_iff_eq, decide_eq_true_eq]
  exact ⟨fun ⟨z, m, e⟩ => e ▸ m, fun m => ⟨c, m, rfl⟩⟩
theorem op_inM (hu : X.A.units + 64 < cLine) : OpR X (compareOp .In) (rCmpD X.K dIn) := by
  intro pins s σ H x y v u Q I rx ry h
  obtain ⟨dx, dy, b, G, e, r1, r2, hb, q⟩ := h
  unfold dIn at hb
  split at hb
  · obtain ⟨p1, p2, hm, rfl⟩ := dInL_inv hb
    obtain ⟨as, q1⟩ := Dp.reads I _ x v ((r1.now e).dp p1) rx
    obtain ⟨bs, q2⟩ := Dp.reads I _ y u ((r2.now e).dp p2) ry
    refine SeqAt.in_list_reads q2 q1 (r2.now e).lay (r1.now e).lay ?_ ⟨.bl _, H, I, rfl, by rw [any_pys]; exact q⟩
    unfold D.dep at hm; omega
  · obtain ⟨p1, p2, hm, rfl⟩ := dInL_inv hb
    obtain ⟨as, q1⟩ := Dp.reads I _ x v ((r1.now e).dp p1) rx
    obtain ⟨bs, q2⟩ := Dp.reads I _ y u ((r2.now e).dp p2) ry
    refine SeqAt.in_tuple_reads q2 q1 (r2.now e).lay (r1.now e).lay ?_ ⟨.bl _, H, I, rfl, by rw [any_pys]; exact q⟩
    unfold D.dep at hm; omega
  · obtain ⟨p1, p2, hm, rfl⟩ := dInL_inv hb
    obtain ⟨as, q1⟩ := Dp.reads I _ x v ((r1.now e).dp p1) rx
    obtain ⟨bs, q2⟩ := Dp.reads I _ y u ((r2.now e).dp p2) ry
    refine SeqAt.in_tuple_reads q2 q1 (r2.now e).lay (r1.now e).lay ?_ ⟨.bl _, H, I, rfl, by rw [any_pys]; exact q⟩
    unfold D.dep at hm; omega
  · rename_i xs ys
    split at hb
    · rename_i hl
      cases hb
      obtain ⟨rfl, _, _⟩ := r1.str
      obtain ⟨rfl, _, _⟩ := r2.str
      obtain ⟨⟨l⟩⟩ := xs
      cases l with
      | nil => cases hl
      | cons c l =>
        cases l with
        | cons _ _ => cases hl
        | nil =>
          refine op_in_sign pins s σ H _ _ v u Q I rx ry ⟨c, ys, rfl, rfl, ?_⟩
          have e2 : (ys.cps.toList.any fun z => z == (Array.mk [c]).getD 0 0) = decide (c ∈ ys.cps.toList) := any_sign c _
          rw [← e2]; exact q
    · cases hb
  · rename_i t ks ds
    cases hk : keyOf t dx with
    | none => rw [hk] at hb; cases hb
    | some k =>
      rw [hk] at hb
      cases hb
      obtain ⟨a, o, rfl, g, lo⟩ := dget_of e r2 r1 hk
      obtain rfl : u = Value.ref a := ry
      refine d_in (by omega) I g rx fun s' I' => ⟨.bl _, H, I', rfl, ?_⟩
      have e2 : (lookK ks ds k).isSome = o.isSome := by
        cases hl : lookK ks ds k with
        | none => rw [hl] at lo; dsimp only at lo; rw [lo]; rfl
        | some d' => rw [hl] at lo; obtain ⟨v', rfl, _⟩ := lo; rfl
      rw [← e2]; exact q
  · cases hb
theorem op_notInM (hu : X.A.units + 64 < cLine) : OpR X (compareOp .NotIn) (rCmpD X.K fun a b => do let c ← dIn a b; pure (!c)) := by
  intro pins s σ H x y v u Q I rx ry h
  obtain ⟨dx, dy, b, G, e, r1, r2, hb0, q⟩ := h
  dsimp only at hb0
  cases hb : dIn dx dy with
  | exc c => rw [hb] at hb0; cases hb0
  | stuck => rw [hb] at hb0; cases hb0
  | ok b' =>
  rw [hb] at hb0
  have hb' : (!b') = b := by simpa using hb0
  subst hb'
  unfold dIn at hb
  split at hb
  · obtain ⟨p1, p2, hm, rfl⟩ := dInL_inv hb
    obtain ⟨as, q1⟩ := Dp.reads I _ x v ((r1.now e).dp p1) rx
    obtain ⟨bs, q2⟩ := Dp.reads I _ y u ((r2.now e).dp p2) ry
    refine SeqAt.notIn_list_reads q2 q1 (r2.now e).lay (r1.now e).lay ?_ ⟨.bl _, H, I, rfl, by rw [any_pys]; exact q⟩
    unfold D.dep at hm; omega
  · obtain ⟨p1, p2, hm, rfl⟩ := dInL_inv hb
    obtain ⟨as, q1⟩ := Dp.reads I _ x v ((r1.now e).dp p1) rx
    obtain ⟨bs, q2⟩ := Dp.reads I _ y u ((r2.now e).dp p2) ry
    refine SeqAt.notIn_tuple_reads q2 q1 (r2.now e).lay (r1.now e).lay ?_ ⟨.bl _, H, I, rfl, by rw [any_pys]; exact q⟩
    unfold D.dep at hm; omega
  · obtain ⟨p1, p2, hm, rfl⟩ := dInL_inv hb
    obtain ⟨as, q1⟩ := Dp.reads I _ x v ((r1.now e).dp p1) rx
    obtain ⟨bs, q2⟩ := Dp.reads I _ y u ((r2.now e).dp p2) ry
    refine SeqAt.notIn_tuple_reads q2 q1 (r2.now e).lay (r1.now e).lay ?_ ⟨.bl _, H, I, rfl, by rw [any_pys]; exact q⟩
    unfold D.dep at hm; omega
  · rename_i xs ys
    split at hb
    · rename_i hl
      cases hb
      obtain ⟨rfl, _, _⟩ := r1.str
      obtain ⟨rfl, _, _⟩ := r2.str
      obtain ⟨⟨l⟩⟩ := xs
      cases l with
      | nil => cases hl
      | cons c l =>
        cases l with
        | cons _ _ => cases hl
        | nil =>
          refine op_notIn_sign pins s σ H _ _ v u Q I rx ry ⟨c, ys, rfl, rfl, ?_⟩
          have e2 : (ys.cps.toList.any fun z => z == (Array.mk [c]).getD 0 0) = decide (c ∈ ys.cps.toList) := any_sign c _
          rw [← e2]; exact q
    · cases hb
  · rename_i t ks ds
    cases hk : keyOf t dx with
    | none => rw [hk] at hb; cases hb
    | some k =>
      rw [hk] at hb
      cases hb
      obtain ⟨a, o, rfl, g, lo⟩ := dget_of e r2 r1 hk
      obtain rfl : u = Value.ref a := ry
      refine d_notIn (by omega) I g rx fun s' I' => ⟨.bl _, H, I', rfl, ?_⟩
      have e2 : (lookK ks ds k).isSome = o.isSome := by
        cases hl : lookK ks ds k with
        | none => rw [hl] at lo; dsimp only at lo; rw [lo]; rfl
        | some d' => rw [hl] at lo; obtain ⟨v', rfl, _⟩ := lo; rfl
      rw [← e2]; exact q
  · cases hb
theorem op_isM : OpR X (compareOp .Is) (rCmpD X.K dIs) := by
  intro pins s σ H x y v u Q I rx ry h
  obtain ⟨dx, dy, b, G, e, r1, r2, hb, q⟩ := h
  unfold dIs at hb
  split at hb
  · cases hb
    cases r2.non
    refine op_isN pins s σ H x _ v u Q I rx ry ⟨rfl, ?_⟩
    have e2 : dx.isN = decide (x = V.non) := by
      cases r1 with
      | fz r => cases r <;> simp [D.isN]
      | _ => simp [D.isN]
    rw [← e2]; exact q
  · cases hb
    cases r1.bl; cases r2.bl
    exact op_is_bl pins s σ H _ _ v u Q I rx ry ⟨_, _, rfl, rfl, q⟩
  · cases hb
theorem op_isNotM : OpR X (compareOp .IsNot) (rCmpD X.K fun a b => do let c ← dIs a b; pure (!c)) := by
  intro pins s σ H x y v u Q I rx ry h
  obtain ⟨dx, dy, b, G, e, r1, r2, hb0, q⟩ := h
  dsimp only at hb0
  cases hb : dIs dx dy with
  | exc c => rw [hb] at hb0; cases hb0
  | stuck => rw [hb] at hb0; cases hb0
  | ok b' =>
  rw [hb] at hb0
  have hb' : (!b') = b := by simpa using hb0
  subst hb'
  unfold dIs at hb
  split at hb
  · cases hb
    cases r2.non
    refine op_notN pins s σ H x _ v u Q I rx ry ⟨rfl, ?_⟩
    have e2 : dx.isN = decide (x = V.non) := by
      cases r1 with
      | fz r => cases r <;> simp [D.isN]
      | _ => simp [D.isN]
    rw [← e2]; exact q
  · cases hb
    cases r1.bl; cases r2.bl
    exact op_isnot_bl pins s σ H _ _ v u Q I rx ry ⟨_, _, rfl, rfl, q⟩
  · cases hb
theorem op_ltM : OpR X (compareOp .Lt) (rCmpD X.K dLt) := by
  intro pins s σ H x y v u Q I rx ry h
  obtain ⟨dx, dy, b, G, e, r1, r2, hb, q⟩ := h
  (try dsimp only at hb)
  unfold dLt at hb
  split at hb
  · cases hb; cases r1.int; cases r2.int
    exact op_lt pins s σ H _ _ v u Q I rx ry ⟨_, _, rfl, rfl, q⟩
  · cases hb
    obtain ⟨rfl, _⟩ := r1.str
    obtain ⟨rfl, _⟩ := r2.str
    exact op_lt_str pins s σ H _ _ v u Q I rx ry ⟨_, _, rfl, rfl, q⟩
  · cases hb
theorem op_gtM : OpR X (compareOp .Gt) (rCmpD X.K fun a b => dLt b a) := by
  intro pins s σ H x y v u Q I rx ry h
  obtain ⟨dx, dy, b, G, e, r1, r2, hb, q⟩ := h
  (try dsimp only at hb)
  unfold dLt at hb
  split at hb
  · cases hb; cases r1.int; cases r2.int
    exact op_gt pins s σ H _ _ v u Q I rx ry ⟨_, _, rfl, rfl, q⟩
  · cases hb
    obtain ⟨rfl, _⟩ := r1.str
    obtain ⟨rfl, _⟩ := r2.str
    exact op_gt_str pins s σ H _ _ v u Q I rx ry ⟨_, _, rfl, rfl, q⟩
  · cases hb
theorem op_leM : OpR X (compareOp .LtE) (rCmpD X.K dLe) := by
  intro pins s σ H x y v u Q I rx ry h
  obtain ⟨dx, dy, b, G, e, r1, r2, hb, q⟩ := h
  (try dsimp only at hb)
  unfold dLe at hb
  split at hb
  · cases hb; cases r1.int; cases r2.int
    exact op_le pins s σ H _ _ v u Q I rx ry ⟨_, _, rfl, rfl, q⟩
  · cases hb
    obtain ⟨rfl, _⟩ := r1.str
    obtain ⟨rfl, _⟩ := r2.str
    exact op_le_str pins s σ H _ _ v u Q I rx ry ⟨_, _, rfl, rfl, q⟩
  · cases hb
theorem op_geM : OpR X (compareOp .GtE) (rCmpD X.K fun a b => dLe b a) := by
  intro pins s σ H x y v u Q I rx ry h
  obtain ⟨dx, dy, b, G, e, r1, r2, hb, q⟩ := h
  (try dsimp only at hb)
  unfold dLe at hb
  split at hb
  · cases hb; cases r1.int; cases r2.int
    exact op_ge pins s σ H _ _ v u Q I rx ry ⟨_, _, rfl, rfl, q⟩
  · cases hb
    obtain ⟨rfl, _⟩ := r1.str
    obtain ⟨rfl, _⟩ := r2.str
    exact op_ge_str pins s σ H _ _ v u Q I rx ry ⟨_, _, rfl, rfl, q⟩
  · cases hb
theorem op_cmpM (hu : X.A.units + 64 < cLine) (op : CmpOp) : OpR X (compareOp op) (rCmpD X.K (dCmp op)) := by
  cases op with
  | Eq => exact op_eqM hu
  | NotEq => exact op_neM hu
  | Lt => exact op_ltM
  | LtE => exact op_leM
  | Gt => exact op_gtM
  | GtE => exact op_geM
  | Is => exact op_isM
  | IsNot => exact op_isNotM
  | In => exact op_inM hu
  | NotIn => exact op_notInM hu
end
end Hr

end
section
/-! HrE: comparisons, tests, subscripts, slices, displays, argument lists -/
namespace Hr
open PySem PySem.Spec L2
section
variable {X : Cx} {B : Base} {W : WX} {Γ : Ow} {e a b c : Expr} {f fa fb fc : En → R D} {pos : Pos}

theorem dEq_noexc (x y : D) (c : Str) : dEq x y ≠ .exc c := by unfold dEq; split <;> exact fun z => nomatch z
theorem dInL_noexc (x : D) (y : List D) (c : Str) : dInL x y ≠ .exc c := by unfold dInL; split <;> exact fun z => nomatch z
theorem of_noexc {α : Type} (o : Option α) (c : Str) : R.of o ≠ .exc c := by cases o <;> exact fun z => nomatch z
theorem dIn_noexc (x y : D) (c : Str) : dIn x y ≠ .exc c := by
  unfold dIn
  split
  · exact dInL_noexc _ _ _
  · exact dInL_noexc _ _ _
  · exact dInL_noexc _ _ _
  · split <;> exact fun z => nomatch z
  · exact of_noexc _ _
  · exact fun z => nomatch z
theorem neg_noexc {x : R Bool} {c : Str} (h : ∀ c, x ≠ .exc c) : (do let b ← x; pure (!b)) ≠ R.exc c := by
  cases x with
  | ok b => exact fun z => nomatch z
  | stuck => exact fun z => nomatch z
  | exc c' => exact absurd rfl (h c')
theorem dLt_noexc (x y : D) (c : Str) : dLt x y ≠ .exc c := by unfold dLt; split <;> exact fun z => nomatch z
theorem dLe_noexc (x y : D) (c : Str) : dLe x y ≠ .exc c := by unfold dLe; split <;> exact fun z => nomatch z
theorem dIs_noexc (x y : D) (c : Str) : dIs x y ≠ .exc c := by unfold dIs; split <;> exact fun z => nomatch z
theorem dCmp_noexc (op : CmpOp) (x y : D) (c : Str) : dCmp op x y ≠ .exc c := by
  cases op with
  | Eq => exact dEq_noexc _ _ _
  | NotEq => exact neg_noexc fun c => dEq_noexc _ _ c
  | Lt => exact dLt_noexc _ _ _
  | LtE => exact dLe_noexc _ _ _
  | Gt => exact dLt_noexc _ _ _
  | GtE => exact dLe_noexc _ _ _
  | Is => exact dIs_noexc _ _ _
  | IsNot => exact neg_noexc fun c => dIs_noexc _ _ c
  | In => exact dIn_noexc _ _ _
  | NotIn => exact neg_noexc fun c => dIn_noexc _ _ c

/-! ### comparisons -/
def eCmp (op : CmpOp) (fa fb : En → R D) : En → R Bool := fun s => fa s >>= fun x => fb s >>= fun y => dCmp op x y
/-- a truth as a value -/
def eB (f : En → R Bool) : En → R D := fun s => f s >>= fun b => .ok (.bl b)
theorem cmp_two (op : CmpOp) {σ : St} {H : Hp} {Q : Bool → Hp → Prop} (k : tTe X.K B W Γ (eCmp op fa fb) σ H Q) : tOp (rCmpD X.K (dCmp op)) (tBo X.K B W Γ fa) (tBo X.K B W Γ fb) σ H (fun v H' => ∃ b, v = .bl b ∧ Q b H') := by
  obtain ⟨s, G, rl, k⟩ := k
  refine ⟨s, G, rl, k.bind.imp (fun da _ k x G1 H1 g1 rx => ?_) fun _ z => z⟩
  refine ⟨s, G1, rl.grow g1, k.bind.imp (fun db _ k y G2 H2 g2 ry => ?_) fun _ z => XW.grow g1 z⟩
  obtain ⟨d, e, k⟩ := k.ok (dCmp_noexc op _ _)
  exact ⟨da, db, d, G2, g2.gh, rx.grow g2, ry, e, d, rfl, k G2 H2 (g1.trans g2)⟩
theorem eB_of {f : En → R Bool} {σ : St} {H : Hp} {Q : VK} (k : tV X.K B W Γ (eB f) σ H Q) : tTe X.K B W Γ f σ H (fun b H' => Q (.bl b) H') := by
  obtain ⟨s, G, rl, k⟩ := k
  exact ⟨s, G, rl, k.bind.imp (fun b _ k G' H' g => k _ G' H' g (.bl b)) fun _ z => z⟩
theorem et_cmp (hu : X.A.units + 64 < cLine) {op : CmpOp} (hm : behindInMarks op b = false) (ha : EB X B W Γ a fa) (hb : EB X B W Γ b fb) : ET X B W Γ (.Compare a [op] [b] pos) (eCmp op fa fb) :=
  PT.imp (pt_cmpR (op_cmpM hu op) ha hb hm) fun σ H Q k => cmp_two op k
theorem tBo_mono {σ : St} {H : Hp} {Q Q' : VK} (k : tBo X.K B W Γ f σ H Q) (h : ∀ v H', Q v H' → Q' v H') : tBo X.K B W Γ f σ H Q' := by
  obtain ⟨s, G, rl, k⟩ := k
  exact ⟨s, G, rl, k.imp (fun d _ k v G' H' g r => h _ _ (k v G' H' g r)) fun _ z => z⟩
theorem ev_cmp (hu : X.A.units + 64 < cLine) {op : CmpOp} (hm : behindInMarks op b = false) (ha : EB X B W Γ a fa) (hb : EB X B W Γ b fb) : EV X B W Γ (.Compare a [op] [b] pos) (eB (eCmp op fa fb)) :=
  PE.imp (pe_cmpR (op_cmpM hu op) ha hb hm) fun σ H Q k => by
    refine tBo_mono (cmp_two op (eB_of k)) fun x H1 q => tBo_mono q fun y H2 q => ?_
    obtain ⟨dx, dy, b, G, e, r1, r2, hb, b', e', q⟩ := q
    cases e'
    exact ⟨dx, dy, b, G, e, r1, r2, hb, q⟩
/-- a op b op' c -/
def eChn (o1 o2 : CmpOp) (fa fb fc : En → R D) : En → R Bool := fun s => fa s >>= fun x => fb s >>= fun y => dCmp o1 x y >>= fun k => if k then fc s >>= fun z => dCmp o2 y z else .ok false
theorem chn_three (o1 o2 : CmpOp) {σ : St} {H : Hp} {Q : Bool → Hp → Prop} (k : tTe X.K B W Γ (eChn o1 o2 fa fb fc) σ H Q) :
    tChain (rCmpD X.K (dCmp o1)) (rCmpD X.K (dCmp o2)) (tBo X.K B W Γ fa) (tBo X.K B W Γ fb) (tBo X.K B W Γ fc) σ H (fun v H' => ∃ b, v = .bl b ∧ Q b H') := by
  obtain ⟨s, G, rl, k⟩ := k
  refine ⟨s, G, rl, k.bind.imp (fun da _ k x G1 H1 g1 rx => ?_) fun _ z => z⟩
  refine ⟨s, G1, rl.grow g1, k.bind.imp (fun db _ k y G2 H2 g2 ry => ?_) fun _ z => XW.grow g1 z⟩
  obtain ⟨d, e, k⟩ := k.bind.ok (dCmp_noexc o1 _ _)
  refine ⟨da, db, d, G2, g2.gh, rx.grow g2, ry, e, d, rfl, ?_⟩
  cases d with
  | false =>
    rw [if_neg Bool.false_ne_true] at k ⊢
    exact ⟨false, rfl, k G2 H2 (g1.trans g2)⟩
  | true =>
    rw [if_pos rfl] at k ⊢
    refine ⟨s, G2, (rl.grow g1).grow g2, k.bind.imp (fun dc _ k z G3 H3 g3 rz => ?_) fun _ z => XW.grow (g1.trans g2) z⟩
    obtain ⟨d2, e2, k⟩ := k.ok (dCmp_noexc o2 _ _)
    exact ⟨db, dc, d2, G3, g3.gh, ry.grow g3, rz, e2, d2, rfl, k G3 H3 ((g1.trans g2).trans g3)⟩
theorem et_chn (hu : X.A.units + 64 < cLine) {o1 o2 : CmpOp} (hm : lastMarks [o1, o2] [b, c] = false) (ha : EB X B W Γ a fa) (hb : EB X B W Γ b fb) (hc : EB X B W Γ c fc) : ET X B W Γ (.Compare a [o1, o2] [b, c] pos) (eChn o1 o2 fa fb fc) :=
  PT.imp (pt_chain (op_cmpM hu o1) (op_cmpM hu o2) ha hb hc hm) fun σ H Q k => chn_three o1 o2 k
theorem ev_chn (hu : X.A.units + 64 < cLine) {o1 o2 : CmpOp} (hm : lastMarks [o1, o2] [b, c] = false) (ha : EB X B W Γ a fa) (hb : EB X B W Γ b fb) (hc : EB X B W Γ c fc) : EV X B W Γ (.Compare a [o1, o2] [b, c] pos) (eB (eChn o1 o2 fa fb fc)) :=
  PE.imp (pe_chain (op_cmpM hu o1) (op_cmpM hu o2) ha hb hc hm) fun σ H Q k => by
    refine tBo_mono (chn_three o1 o2 (eB_of k)) fun x H1 q => tBo_mono q fun y H2 q => ?_
    obtain ⟨dx, dy, b, G, e, r1, r2, hb, b', e', q⟩ := q
    refine ⟨dx, dy, b, G, e, r1, r2, hb, b', e', ?_⟩
    cases b' with
    | false =>
      rw [if_neg Bool.false_ne_true] at q ⊢
      obtain ⟨_, e, q⟩ := q
      cases e
      exact q
    | true =>
      rw [if_pos rfl] at q ⊢
      refine tBo_mono q fun z H3 q => ?_
      obtain ⟨dx, dy, b, G, e, r1, r2, hb, b', e', q⟩ := q
      cases e'
      exact ⟨dx, dy, b, G, e, r1, r2, hb, q⟩

/-! ### truth -/
theorem dTru_noexc (x : D) (c : Str) : dTru x ≠ .exc c := by unfold dTru; split <;> exact fun z => nomatch z
theorem nat_ne0 (n : Nat) : (n != 0) = ((n : Int) != 0) := by cases n <;> rfl
theorem tru_of {K : Frag} {G H : Hp} {x : V} {d : D} {k : Bool} (e : Same G H) (r : RB K G H x d) (h : dTru d = .ok k) : TruV K x H k := by
  unfold dTru at h
  split at h
  · cases h; cases r.non; rfl
  · cases h; cases r.bl; rfl
  · cases h; cases r.int; rfl
  · cases h
    obtain ⟨rfl, _, l⟩ := r.str
    exact ⟨l, nat_ne0 _⟩
  · cases h
    obtain ⟨a, vs, rfl, s, l, rs⟩ := r.tup.tup_inv
    refine .inr (.inl ⟨vs, (s.same e).sq, ?_⟩)
    cases rs <;> rfl
  · cases h
    obtain ⟨a, vs, rfl, s, l, rs⟩ := r.lst e
    refine .inl ⟨vs, .inl (.inl s), ?_⟩
    cases rs <;> rfl
  · cases h
    obtain ⟨a, vs, rfl, s, l, rs⟩ := r.arr e
    refine .inl ⟨vs, s, ?_⟩
    cases rs <;> rfl
  · cases h
def eTru (fa : En → R D) : En → R Bool := fun s => fa s >>= dTru
/-- is an expression's test its value's truth? -/
def plainTest : Expr → Bool
  | .UnaryOp .Not _ _ => false
  | .BoolOp _ _ _ => false
  | .IfExp _ _ _ _ => false
  | .Compare _ _ _ _ => false
  | _ => true
theorem plainTest_ok (h : plainTest a = true) (env : Env) (whole : Sem Value) : isTrue a env whole = (do let v ← whole; standAt a.pos; holding [v] (truthy v)) := by
  cases a with
  | UnaryOp op _ _ => cases op <;> first | rfl | cases h
  | BoolOp _ _ _ => cases h
  | IfExp _ _ _ _ => cases h
  | Compare _ _ _ _ => cases h
  | _ => rfl
theorem et_tru (hp : plainTest a = true) (ha : EB X B W Γ a fa) : ET X B W Γ a (eTru fa) :=
  PT.imp (pt_truth ha (plainTest_ok hp X.env)) fun σ H Q ⟨s, G, rl, k⟩ => by
    refine ⟨s, G, rl, k.bind.imp (fun da _ k x G1 H1 g1 rx => ?_) fun _ z => z⟩
    obtain ⟨b, e, k⟩ := k.ok (dTru_noexc _)
    exact ⟨b, tru_of g1.gh rx e, k G1 H1 g1⟩

/-! ### and, or, not, if else -/
variable {ga gb gc : En → R Bool} {rest : List Expr}
def eAnd (ga gb : En → R Bool) : En → R Bool := fun s => ga s >>= fun k => if k then gb s else .ok false
def eOr (ga gb : En → R Bool) : En → R Bool := fun s => ga s >>= fun k => if k then .ok true else gb s
def eNot (ga : En → R Bool) : En → R Bool := fun s => ga s >>= fun k => .ok (!k)
abbrev EW (X : Cx) (B : Base) (W : WX) (Γ : Ow) (e : Expr) (f : En → R Bool) : Prop := PW X e (tTe X.K B W Γ f)
theorem ew_one {op : BoolOp} (ha : ET X B W Γ a ga) : EW X B W Γ (.BoolOp op [a] pos) ga := by
  cases op with
  | And => exact pw_and1 ha
  | Or => exact pw_or1 ha
theorem ew_and (ha : ET X B W Γ a ga) (hb : EW X B W Γ (.BoolOp .And (b :: rest) pos) gb) : EW X B W Γ (.BoolOp .And (a :: b :: rest) pos) (eAnd ga gb) :=
  PW.imp (pw_and ha hb) fun σ H Q ⟨s, G, rl, k⟩ => ⟨s, G, rl, k.bind.imp (fun b _ k G1 H1 g1 => by
    cases b with
    | false => rw [if_neg Bool.false_ne_true] at k ⊢; exact k G1 H1 g1
    | true => rw [if_pos rfl] at k ⊢; exact ⟨s, G1, rl.grow g1, k.imp (fun b _ k G2 H2 g2 => k G2 H2 (g1.trans g2)) fun _ z => XW.grow g1 z⟩) fun _ z => z⟩
theorem ew_or (ha : ET X B W Γ a ga) (hb : EW X B W Γ (.BoolOp .Or (b :: rest) pos) gb) : EW X B W Γ (.BoolOp .Or (a :: b :: rest) pos) (eOr ga gb) :=
  PW.imp (pw_or ha hb) fun σ H Q ⟨s, G, rl, k⟩ => ⟨s, G, rl, k.bind.imp (fun b _ k G1 H1 g1 => by
    cases b with
    | true => rw [if_pos rfl] at k ⊢; exact k G1 H1 g1
    | false => rw [if_neg Bool.false_ne_true] at k ⊢; exact ⟨s, G1, rl.grow g1, k.imp (fun b _ k G2 H2 g2 => k G2 H2 (g1.trans g2)) fun _ z => XW.grow g1 z⟩) fun _ z => z⟩
theorem et_not (ha : ET X B W Γ a ga) : ET X B W Γ (.UnaryOp .Not a pos) (eNot ga) :=
  PT.imp (pt_not ha) fun σ H Q ⟨s, G, rl, k⟩ => ⟨s, G, rl, k.bind.imp (fun b _ k G1 H1 g1 => k G1 H1 g1) fun _ z => z⟩
/-- .. as values -/
def eAndV (fa fb : En → R D) : En → R D := fun s => fa s >>= fun x => dTru x >>= fun k => if k then fb s else .ok x
def eOrV (fa fb : En → R D) : En → R D := fun s => fa s >>= fun x => dTru x >>= fun k => if k then .ok x else fb s
def eNotV (fa : En → R D) : En → R D := fun s => fa s >>= fun x => dTru x >>= fun k => .ok (.bl (!k))
theorem ev_one {op : BoolOp} (ha : EV X B W Γ a fa) : EV X B W Γ (.BoolOp op [a] pos) fa := pe_one ha
theorem ev_and (ha : EV X B W Γ a fa) (hb : EV X B W Γ (.BoolOp .And (b :: rest) pos) fb) : EV X B W Γ (.BoolOp .And (a :: b :: rest) pos) (eAndV fa fb) :=
  PE.imp (pe_andT ha hb) fun σ H Q ⟨s, G, rl, k⟩ => ⟨s, G, rl, k.bind.imp (fun x _ k v G1 H1 g1 r => by
    obtain ⟨b, e, k⟩ := k.bind.ok (dTru_noexc _)
    refine ⟨b, tru_of g1.gh (.fz r) e, ?_⟩
    cases b with
    | false => rw [if_neg Bool.false_ne_true] at k ⊢; exact k v G1 H1 g1 r
    | true => rw [if_pos rfl] at k ⊢; exact ⟨s, G1, rl.grow g1, k.imp (fun b _ k v G2 H2 g2 => k v G2 H2 (g1.trans g2)) fun _ z => XW.grow g1 z⟩) fun _ z => z⟩
theorem ev_or (ha : EV X B W Γ a fa) (hb : EV X B W Γ (.BoolOp .Or (b :: rest) pos) fb) : EV X B W Γ (.BoolOp .Or (a :: b :: rest) pos) (eOrV fa fb) :=
  PE.imp (pe_orT ha hb) fun σ H Q ⟨s, G, rl, k⟩ => ⟨s, G, rl, k.bind.imp (fun x _ k v G1 H1 g1 r => by
    obtain ⟨b, e, k⟩ := k.bind.ok (dTru_noexc _)
    refine ⟨b, tru_of g1.gh (.fz r) e, ?_⟩
    cases b with
    | true => rw [if_pos rfl] at k ⊢; exact k v G1 H1 g1 r
    | false => rw [if_neg Bool.false_ne_true] at k ⊢; exact ⟨s, G1, rl.grow g1, k.imp (fun b _ k v G2 H2 g2 => k v G2 H2 (g1.trans g2)) fun _ z => XW.grow g1 z⟩) fun _ z => z⟩
theorem ev_not (ha : EB X B W Γ a fa) : EV X B W Γ (.UnaryOp .Not a pos) (eNotV fa) :=
  PE.imp (pe_notT ha) fun σ H Q ⟨s, G, rl, k⟩ => ⟨s, G, rl, k.bind.imp (fun x _ k v G1 H1 g1 r => by
    obtain ⟨b, e, k⟩ := k.bind.ok (dTru_noexc _)
    exact ⟨b, tru_of g1.gh r e, k _ G1 H1 g1 (.bl _)⟩) fun _ z => z⟩
def eIf (gc : En → R Bool) (fa fb : En → R D) : En → R D := fun s => gc s >>= fun k => if k then fa s else fb s
theorem ev_ife (hc : ET X B W Γ c gc) (ha : EV X B W Γ a fa) (hb : EV X B W Γ b fb) : EV X B W Γ (.IfExp c a b pos) (eIf gc fa fb) :=
  PE.imp (pe_ifExp hc ha hb) fun σ H Q ⟨s, G, rl, k⟩ => ⟨s, G, rl, k.bind.imp (fun b _ k G1 H1 g1 => by
    cases b with
    | true => rw [if_pos rfl] at k ⊢; exact ⟨s, G1, rl.grow g1, k.imp (fun b _ k v G2 H2 g2 => k v G2 H2 (g1.trans g2)) fun _ z => XW.grow g1 z⟩
    | false => rw [if_neg Bool.false_ne_true] at k ⊢; exact ⟨s, G1, rl.grow g1, k.imp (fun b _ k v G2 H2 g2 => k v G2 H2 (g1.trans g2)) fun _ z => XW.grow g1 z⟩) fun _ z => z⟩
theorem et_ife (hc : ET X B W Γ c gc) (ha : EV X B W Γ a fa) (hb : EV X B W Γ b fb) : True := trivial

/-! ### subscripts, slices -/
open PyProof.Rows in
theorem ix_dict (hu : X.A.units + 1 < cLine) : IxR X (fun x y H Q => ∃ a v, x = .ref a ∧ DGet H a y (some v) ∧ Q v H) := by
  intro value slice pins s σ H x y v u Q I rx ry h hs
  obtain ⟨a, z, rfl, g, q⟩ := h
  cases rx
  have hT := dict_typeIs I g
  unfold subscriptTail
  refine wpAny_bind ?_
  rw [getitemInPython_of_ne hT.not_modules]
  refine wpAny_bind (wpAny_specialOf hT PySem.F.slot_dict_getitem.lookup ?_)
  have fin : wpAny (model X.prog X.w) X.A (subscripted slice false (.ref a) u) (fun r s₃ => wpAny (model X.prog X.w) X.A (letTemporaryGo value (.ref a) r >>= fun _ => pure r) (EP X pins σ Q) X.xe s₃) X.xe s := by
    rw [hs]
    exact wpAny_operating (wpAny_mono (d_getItem hu I g ry fun w' s3 I3 rw' => (⟨z, H, I3, rw', q⟩ : EP X pins σ Q w' s3)) (fun r s₃ h₃ => wpAny_bind (wpAny_letTemporaryGo (wpAny_pure h₃))) fun _ _ x => x)
  first
    | exact wpAny_pure (wpAny_bind fin)
    | exact wpAny_bind (wpAny_pure (wpAny_bind fin))
    | exact wpAny_bind fin
abbrev rSubD (K : Frag) : R2 := fun x y H Q => rIx K x y H Q ∨ (∃ a v, x = .ref a ∧ DGet H a y (some v) ∧ Q v H)
theorem ix_all (hu : X.A.units + 1 < cLine) : IxR X (rSubD X.K) := ix_seq.or (ix_dict hu)
theorem atI_pair {K : Frag} {G : Hp} {vs : List V} {ds : List D} {i : Int} {d : D} (r : RDs K G vs ds) (h : atI ds i = some d) : ∃ v, atI vs i = some v ∧ RD K G v d := by
  unfold atI at h ⊢
  rw [r.length]
  cases e : ixN ds.length i with
  | none => rw [e] at h; cases h
  | some j =>
    rw [e] at h
    exact r.get h
theorem opd_sub2 {K : Frag} : OpD K (rSubD K) dSub2 := by
  intro x y dx dy d G H Q e rx ry hg k
  unfold dSub2 at hg
  split at hg
  · rename_i ds i
    cases ry.int
    obtain ⟨a, vs, rfl, s, l, rs⟩ := rx.tup.tup_inv
    cases hh : atI ds i with
    | none => rw [hh] at hg; cases hg
    | some d' =>
      rw [hh] at hg; cases hg
      obtain ⟨v, hv, rd⟩ := atI_pair rs hh
      exact .inl (.inr (.inl ⟨a, vs, _, v, rfl, rfl, (s.same e).sq, hv, k _ G H (.refl e) rd⟩))
  · rename_i ds i
    cases ry.int
    obtain ⟨a, vs, rfl, s, l, rs⟩ := rx.lst e
    cases hh : atI ds i with
    | none => rw [hh] at hg; cases hg
    | some d' =>
      rw [hh] at hg; cases hg
      obtain ⟨v, hv, rd⟩ := atI_pair rs hh
      exact .inl (.inl ⟨a, vs, _, v, rfl, rfl, .inl (.inl s), hv, k _ G H (.refl e) rd⟩)
  · rename_i ds i
    cases ry.int
    obtain ⟨a, vs, rfl, s, l, rs⟩ := rx.arr e
    cases hh : atI ds i with
    | none => rw [hh] at hg; cases hg
    | some d' =>
      rw [hh] at hg; cases hg
      obtain ⟨v, hv, rd⟩ := atI_pair rs hh
      exact .inl (.inl ⟨a, vs, _, v, rfl, rfl, s, hv, k _ G H (.refl e) rd⟩)
  · rename_i z i
    cases ry.int
    obtain ⟨rfl, ok, l⟩ := rx.str
    cases hh : atI z.cps.toList i with
    | none => rw [hh] at hg; cases hg
    | some c =>
      rw [hh] at hg; cases hg
      refine .inl (.inr (.inr ⟨z, i, c, rfl, rfl, l, hh, k _ G H (.refl e) (.str _ ?_ ?_)⟩))
      · rw [strOk_list] at ok ⊢
        intro c' m
        obtain ⟨j, _, hj, _⟩ := atI_get hh
        have : c' = c := by simpa using m
        subst this
        exact ok _ (List.mem_of_getElem? hj)
      · show 1 ≤ sizeLine
        rw [sizeLine_eq]; decide
  · rename_i t ks ds
    cases hk : keyOf t dy with
    | none => rw [hk] at hg; cases hg
    | some q =>
      rw [hk] at hg
      obtain ⟨a, o, rfl, g, lo⟩ := dget_of e rx ry hk
      cases hl : lookK ks ds q with
      | none =>
        have : R.of ((some q).bind fun k => lookK ks ds k) = R.stuck := by rw [Option.bind_some, hl]; rfl
        rw [this] at hg; cases hg
      | some d' =>
        have : R.of ((some q).bind fun k => lookK ks ds k) = R.ok d' := by rw [Option.bind_some, hl]; rfl
        rw [this] at hg; cases hg
        rw [hl] at lo
        obtain ⟨v, rfl, rd⟩ := lo
        exact .inr ⟨a, v, rfl, g, k _ G H (.refl e) rd⟩
  · cases hg
theorem dSub2_noexc (x y : D) (c : Str) : dSub2 x y ≠ .exc c := by
  unfold dSub2
  split <;> first | exact of_noexc _ _ | exact fun z => nomatch z
theorem ev_sub (hu : X.A.units + 1 < cLine) (hs : PlainIx b) (ha : EB X B W Γ a fa) (hb : EB X B W Γ b fb) : EV X B W Γ (.Subscript a b pos) (eBin dSub2 fa fb) :=
  PE.imp (pe_ix (ix_all hu) ha hb hs) (two opd_sub2 dSub2_noexc)

/-- t[lo:hi]: the whole of it is t itself -/
def rSlP (K : Frag) : V → Option Int → Option Int → Hp → VK → Prop := fun x lo hi H Q => ∃ a xs, x = .ref a ∧ SqT K H a xs ∧
  (HT.sIx xs.length 0 lo = 0 ∧ HT.sIx xs.length xs.length hi = xs.length → Q (.ref a) H) ∧ (¬ (HT.sIx xs.length 0 lo = 0 ∧ HT.sIx xs.length xs.length hi = xs.length) → ∀ p us, H p = none → Q (.ref p) (upd H p (pT us (cutV xs lo hi))))
theorem sl_tupP : SlR X (rSlP X.K) := by
  intro pins s σ H x v vl vu lo hi sl Q I rx hs pl pu h
  obtain ⟨a, xs, rfl, hx, q1, q2⟩ := h
  cases rx
  obtain ⟨its, r, ht, hz⟩ := I.tuple hx
  have hlen : its.toArray.size = xs.length := by rw [List.size_toArray]; exact r.length.symm
  refine ⟨"tuple", _, PyProof.Rows.slot_tuple_getitem.lookup, ht.typeIs, ?_⟩
  by_cases hw : HT.sIx xs.length 0 lo = 0 ∧ HT.sIx xs.length xs.length hi = xs.length
  · exact getItem_tuple_whole ht hs pl pu (by rw [hlen]; exact hw) ⟨.ref a, H, I, rfl, q1 hw⟩
  · refine HT.getItem_tuple_cut ht hs pl pu (by rw [hlen]; exact hw) ?_ (by rw [hlen]; exact hz)
    rw [hlen]
    refine ⟨.ref s.heap.objs.size, _, I.laid (t' := s.toks) (o := pT (List.take (HT.sIx xs.length xs.length hi - HT.sIx xs.length 0 lo) (List.drop (HT.sIx xs.length 0 lo) its.toArray.toList)) (cutV xs lo hi)) (fun b ob q => Heap.get?_push_of_some _ q) (Nat.le_refl _) ?_, rfl, q2 hw _ _ (I.hok.fresh (Nat.le_refl _))⟩
    exact pT_ok ⟨Heap.get?_push_size _ rfl, Nat.le_trans (cutV_length xs lo hi) hz, _, (r.drop (HT.sIx xs.length 0 lo)).take (HT.sIx xs.length xs.length hi - HT.sIx xs.length 0 lo), PyProof.Rows.IsTup.new _ _⟩
abbrev rSlD (K : Frag) : V → Option Int → Option Int → Hp → VK → Prop := fun x lo hi H Q => rSlP K x lo hi H Q ∨ (rSlL K x lo hi H Q ∨ rSlS x lo hi H Q)
theorem sl_all : SlR X (rSlD X.K) := sl_tupP.or (sl_list.or sl_str)
theorem RDs.cut {K : Frag} {G : Hp} {vs : List V} {ds : List D} (r : RDs K G vs ds) (lo hi : Option Int) : RDs K G (cutV vs lo hi) (cutD ds lo hi) := by
  unfold cutV cutD
  rw [r.length]
  exact (r.drop _).take _
theorem sl_of {K : Frag} {G H : Hp} {x : V} {d d' : D} {lo hi : Option Int} {Q : VK} (e : Same G H) (r : RB K G H x d) (h : dSl d lo hi = .ok d') (k : ∀ v G' H', Grow G H G' H' → RD K G' v d' → Q v H') : rSlD K x lo hi H Q := by
  unfold dSl at h
  split at h
  · cases h
    have rt := r.tup
    obtain ⟨a, vs, rfl, s, l, rs⟩ := rt.tup_inv
    refine .inl ⟨a, vs, rfl, (s.same e).sq, fun q => ?_, fun _ p us hp => ?_⟩
    · rename_i ds
      have : cutD ds lo hi = ds := by
        unfold cutD
        rw [← rs.length, q.1, q.2, List.drop_zero, Nat.sub_zero, rs.length, List.take_length]
      rw [this] at k
      exact k _ G H (.refl e) rt
    · obtain ⟨g, rd⟩ := new_tup (K := K) e hp (Nat.le_trans (cutV_length vs lo hi) l) (rs.cut lo hi)
      exact k _ _ _ g rd
  · cases h
    obtain ⟨a, vs, rfl, s, l, rs⟩ := r.lst e
    refine .inr (.inl ⟨a, vs, rfl, .inl (.inl s), fun p hp => ?_⟩)
    obtain ⟨g, rd⟩ := new_lst (K := K) e hp (Nat.le_trans (cutV_length vs lo hi) l) (rs.cut lo hi)
    exact k _ _ _ g rd
  · cases h
    obtain ⟨rfl, ok, l⟩ := r.str
    rename_i z
    refine .inr (.inr ⟨z, rfl, l, k _ G H (.refl e) (.str _ ?_ ?_)⟩)
    · rw [strOk_list] at ok ⊢
      intro c m
      unfold cutS at m
      exact ok c (List.mem_of_mem_drop (List.mem_of_mem_take (by simpa using m)))
    · rw [length_str] at l ⊢
      unfold cutS
      simp only [List.length_take, List.length_drop]
      omega
  · cases h
theorem dSl_noexc (x : D) (lo hi : Option Int) (c : Str) : dSl x lo hi ≠ .exc c := by unfold dSl; split <;> exact fun z => nomatch z
/-- a part of a slice -/
def ePart : Option (En → R D) → En → R (Option Int)
  | none, _ => .ok none
  | some f, s => f s >>= fun d => match d with | .int i => .ok (some i) | _ => .stuck
def tPo (K : Frag) (B : Base) (W : WX) (Γ : Ow) (f : En → R (Option Int)) : TO := fun σ H Q => ∃ s G, Rel K B Γ s G σ H ∧ Done (f s) (fun o => ∀ G' H', Grow G H G' H' → Q o H') (XW K W G H σ)
abbrev EP' (X : Cx) (B : Base) (W : WX) (Γ : Ow) (e : Option Expr) (f : En → R (Option Int)) : Prop := PO X e (tPo X.K B W Γ f)
theorem PO.imp {e : Option Expr} {t t' : TO} (h : PO X e t) (k : ∀ σ H Q, t' σ H Q → t σ H Q) : PO X e t' := ⟨fun pins s σ H Q I q => h.run pins s σ H Q I (k σ H Q q)⟩
theorem ep_none : EP' X B W Γ none (ePart none) := PO.imp po_none fun σ H Q ⟨s, G, rl, k⟩ => k G H (.refl rl.GH)
theorem ep_some (ha : EV X B W Γ a fa) : EP' X B W Γ (some a) (ePart (some fa)) := PO.imp (po_some ha) fun σ H Q ⟨s, G, rl, k⟩ => ⟨s, G, rl, k.bind.imp (fun d _ k v G1 H1 g1 r => by
  cases d with
  | int i => cases r.int_inv; exact ⟨i, rfl, k G1 H1 g1⟩
  | _ => exact k.elim) fun _ z => z⟩
def eSl (fa : En → R D) (lo hi : En → R (Option Int)) : En → R D := fun s => fa s >>= fun x => lo s >>= fun l => hi s >>= fun h => dSl x l h
theorem ev_sl {lo hi : Option Expr} {fl fh : En → R (Option Int)} {p2 : Pos} (ha : EB X B W Γ a fa) (hl : EP' X B W Γ lo fl) (hh : EP' X B W Γ hi fh) : EV X B W Γ (.Subscript a (.Slice lo hi none p2) pos) (eSl fa fl fh) :=
  PE.imp (pe_slice sl_all ha hl hh) fun σ H Q ⟨s, G, rl, k⟩ => ⟨s, G, rl, k.bind.imp (fun x _ k v G1 H1 g1 r => ⟨s, G1, rl.grow g1, k.bind.imp (fun l _ k G2 H2 g2 => ⟨s, G2, (rl.grow g1).grow g2, k.bind.imp (fun h _ k G3 H3 g3 => by
    obtain ⟨d, e, k⟩ := k.ok (dSl_noexc _ _ _)
    exact sl_of g3.gh ((r.grow g2).grow g3) e fun v G4 H4 g4 rd => k v G4 H4 (((g1.trans g2).trans g3).trans g4) rd) fun _ z => XW.grow (g1.trans g2) z⟩) fun _ z => XW.grow g1 z⟩) fun _ z => z⟩

/-! ### argument lists, displays -/
variable {es : List Expr} {fs : En → R (List D)}
def eNil : En → R (List D) := fun _ => .ok []
def eCons (fa : En → R D) (fs : En → R (List D)) : En → R (List D) := fun s => fa s >>= fun x => fs s >>= fun xs => .ok (x :: xs)
theorem evs_nil : EVs X B W Γ [] eNil := PA.imp pa_nil fun σ H Q ⟨s, G, rl, k⟩ => k [] G H (.refl rl.GH) .nil
def noStar : Expr → Bool
  | .Starred _ _ => false
  | _ => true
theorem noStar_ok (h : noStar a = true) (es : List Expr) (env : Env) : starEach (a :: es) env = (false, eval a env) :: starEach es env := by
  cases a <;> first | rfl | cases h
theorem evs_cons (hs : noStar a = true) (ha : EV X B W Γ a fa) (hr : EVs X B W Γ es fs) : EVs X B W Γ (a :: es) (eCons fa fs) :=
  PA.imp (pa_cons ha hr (noStar_ok hs es X.env)) fun σ H Q ⟨s, G, rl, k⟩ => ⟨s, G, rl, k.bind.imp (fun x _ k v G1 H1 g1 r => ⟨s, G1, rl.grow g1, k.bind.imp (fun xs _ k vs G2 H2 g2 rs =>
    k (v :: vs) G2 H2 (g1.trans g2) (.cons (r.mono g2.g) rs)) fun _ z => XW.grow g1 z⟩) fun _ z => z⟩
inductive RBs (K : Frag) (G H : Hp) : List V → List D → Prop
  | nil : RBs K G H [] []
  | cons {v : V} {vs : List V} {d : D} {ds : List D} : RB K G H v d → RBs K G H vs ds → RBs K G H (v :: vs) (d :: ds)
theorem RBs.grow {K : Frag} {G H G' H' : Hp} (g : Grow G H G' H') : ∀ {vs : List V} {ds : List D}, RBs K G H vs ds → RBs K G' H' vs ds
  | _, _, .nil => .nil
  | _, _, .cons a b => .cons (a.grow g) (RBs.grow g b)
def tBs (K : Frag) (B : Base) (W : WX) (Γ : Ow) (f : En → R (List D)) : TA := fun σ H Q => ∃ s G, Rel K B Γ s G σ H ∧ Done (f s) (fun ds => ∀ vs G' H', Grow G H G' H' → RBs K G' H' vs ds → Q vs H') (XW K W G H σ)
abbrev EBs (X : Cx) (B : Base) (W : WX) (Γ : Ow) (es : List Expr) (f : En → R (List D)) : Prop := PA X es (tBs X.K B W Γ f)
theorem ebs_nil : EBs X B W Γ [] eNil := PA.imp pa_nil fun σ H Q ⟨s, G, rl, k⟩ => k [] G H (.refl rl.GH) .nil
theorem ebs_cons (hs : noStar a = true) (ha : EB X B W Γ a fa) (hr : EBs X B W Γ es fs) : EBs X B W Γ (a :: es) (eCons fa fs) :=
  PA.imp (pa_cons ha hr (noStar_ok hs es X.env)) fun σ H Q ⟨s, G, rl, k⟩ => ⟨s, G, rl, k.bind.imp (fun x _ k v G1 H1 g1 r => ⟨s, G1, rl.grow g1, k.bind.imp (fun xs _ k vs G2 H2 g2 rs =>
    k (v :: vs) G2 H2 (g1.trans g2) (.cons (r.grow g2) rs)) fun _ z => XW.grow g1 z⟩) fun _ z => z⟩
def eTup (fs : En → R (List D)) : En → R D := fun s => fs s >>= fun ds => if ds.length ≤ sizeLine then .ok (.tup ds) else .stuck
def eLst (fs : En → R (List D)) : En → R D := fun s => fs s >>= fun ds => if ds.length ≤ sizeLine then .ok (.lst ds) else .stuck
def tTupP (t : TA) : TE := fun σ H Q => t σ H fun xs H1 => xs.length ≤ sizeLine ∧ ∀ p us, H1 p = none → Q (.ref p) (upd H1 p (pT us xs))
theorem pe_tupP {t : TA} {x1 : Nat} (h : PA X es t) : PE X (.Tuple es x1 pos) (tTupP t) := by
  refine ⟨fun pins s σ H Q I hq => ?_⟩
  refine wpAny_Tuple_spliced (thn (h.run pos pins s σ H _ I hq) fun us s1 ⟨xs, H1, I1, r, z, q⟩ => ⟨by rw [← r.length]; exact z, ?_⟩)
  have hf : H1 s1.heap.objs.size = none := I1.hok.fresh (Nat.le_refl _)
  refine ⟨.ref s1.heap.objs.size, upd H1 s1.heap.objs.size (pT us xs), I1.laid (t' := s1.toks) (fun b u e => Heap.get?_push_of_some _ e) (Nat.le_refl _) ?_, rfl, q _ _ hf⟩
  exact pT_ok ⟨Heap.get?_push_size _ rfl, z, us, r, ⟨_, Heap.get?_push_size _ rfl, rfl, _, rfl⟩⟩
theorem ev_tup {x1 : Nat} (h : EVs X B W Γ es fs) : EV X B W Γ (.Tuple es x1 pos) (eTup fs) :=
  PE.imp (pe_tupP h) fun σ H Q ⟨s, G, rl, k⟩ => ⟨s, G, rl, k.bind.imp (fun ds _ k vs G1 H1 g1 rs => by
    obtain ⟨hl, k⟩ := k.ite
    have hl2 : vs.length ≤ sizeLine := by rw [rs.length]; exact hl
    refine ⟨hl2, fun p us hp => ?_⟩
    obtain ⟨g, rd⟩ := new_tup (K := X.K) g1.gh hp hl2 rs
    exact k _ _ _ (g1.trans g) rd) fun _ z => z⟩
theorem new_own {K : Frag} {G H : Hp} {p : Addr} {vs : List V} {ds : List D} (e : Same G H) (hp : H p = none) (l : vs.length ≤ sizeLine) (r : RDs K G vs ds) : Grow G H G (upd H p (.lst vs)) ∧ New K H G (upd H p (.lst vs)) (.ref p) (.lst ds) (.own .fz) := by
  refine ⟨⟨.refl _, Same.upd hp, e.trans (Same.upd hp), fun _ h _ => h⟩, [p], .ol upd_same l (OWs.fzs r), by simp, fun a m => ?_⟩
  have : a = p := by simpa using m
  subst this
  exact ⟨hp, ⟨_, upd_same, fun _ z => nomatch z⟩, e.free hp⟩
theorem New.grow {K : Frag} {H0 H G H' : Hp} {v : V} {d : D} {t : OT} (h : Same H0 H) (n : New K H G H' v d t) : New K H0 G H' v d t := by
  obtain ⟨fq, ow, nd, ok⟩ := n
  exact ⟨fq, ow, nd, fun a m => ⟨h.free (ok a m).1, (ok a m).2⟩⟩
theorem eo_lst (h : EVs X B W Γ es fs) : EO X B W Γ (.own .fz) (.List es pos) (eLst fs) :=
  PE.imp (pe_lst h) fun σ H Q ⟨s, G, rl, k⟩ => ⟨s, G, rl, k.bind.imp (fun ds _ k vs G1 H1 g1 rs => by
    obtain ⟨hl, k⟩ := k.ite
    have hl2 : vs.length ≤ sizeLine := by rw [rs.length]; exact hl
    refine ⟨hl2, fun p hp => ?_⟩
    obtain ⟨g, n⟩ := new_own (K := X.K) g1.gh hp hl2 rs
    exact k _ _ _ (g1.trans g) (n.grow g1.h)) fun _ z => z⟩
end
end Hr

end
section
/-! HrF: targets, what is walked, comprehensions -/
namespace Hr
open PySem PySem.Spec L2
section
variable {X : Cx} {B : Base} {W : WX} {Γ : Ow} {e a b c : Expr} {f fa fb fc : En → R D} {pos : Pos}

/-! ### targets -/
abbrev FT := D → En → Option En
/-- the slots vs are the target's -/
def tTg (K : Frag) (B : Base) (Γ : Ow) (vs : List Nat) (ft : FT) : TG := fun v σ H Q => ∃ s G d s', Rel K B Γ s G σ H ∧ RD K G v d ∧ ft d s = some s' ∧ ∀ σ', Rel K B Γ s' G σ' H → wipe σ' vs = wipe σ vs → Q σ' H
def tTgs (K : Frag) (B : Base) (Γ : Ow) (vs : List Nat) (ft : List D → En → Option En) : TGs := fun xs σ H Q => ∃ s G ds s', Rel K B Γ s G σ H ∧ RDs K G xs ds ∧ ft ds s = some s' ∧ ∀ σ', Rel K B Γ s' G σ' H → wipe σ' vs = wipe σ vs → Q σ' H
abbrev EG (X : Cx) (B : Base) (Γ : Ow) (vs : List Nat) (tg : Expr) (ft : FT) : Prop := PG X tg (tTg X.K B Γ vs ft)
abbrev EGs (X : Cx) (B : Base) (Γ : Ow) (vs : List Nat) (tgs : List Expr) (ft : List D → En → Option En) : Prop := PGs X tgs (tTgs X.K B Γ vs ft)
theorem PG.imp {tg : Expr} {t t' : TG} (h : PG X tg t) (k : ∀ v σ H Q, t' v σ H Q → t v σ H Q) : PG X tg t' := by
  obtain ⟨h⟩ := h
  exact ⟨by intros; apply h <;> first | assumption | (apply k; assumption)⟩
theorem PGs.imp {tg : List Expr} {t t' : TGs} (h : PGs X tg t) (k : ∀ v σ H Q, t' v σ H Q → t v σ H Q) : PGs X tg t' := by
  obtain ⟨h⟩ := h
  exact ⟨by intros; apply h <;> first | assumption | (apply k; assumption)⟩
theorem wipe_set {i : Nat} {x : Option V} : ∀ {vs : List Nat} (σ : St), i ∈ vs → wipe (σ.set i x) vs = wipe σ vs
  | [], _, h => by cases h
  | v :: vs, σ, h => by
    unfold wipe
    by_cases hv : i ∈ vs
    · rw [wipe_set σ hv]
    · have e : i = v := by
        rcases List.mem_cons.mp h with q | q
        · exact q
        · exact absurd q hv
      subst e
      have : ∀ ws : List Nat, i ∉ ws → wipe (σ.set i x) ws = (wipe σ ws).set i x := by
        intro ws
        induction ws with
        | nil => intro _; rfl
        | cons w ws ih =>
          intro hn
          unfold wipe
          rw [ih fun q => hn (List.mem_cons_of_mem _ q), List.set_comm]
          intro q
          exact hn (by rw [q]; exact List.mem_cons_self ..)
      rw [this vs hv, List.set_set]
theorem wipe_len (σ : St) (vs : List Nat) : (wipe σ vs).length = σ.length := wipe_length σ vs
def ftName (i : Nat) : FT := fun d s => if i < s.length then some (s.set i (some d)) else none
theorem eg_name {i : Nat} {x : Str} {vs : List Nat} (hN : X.N.Nodup) (hi : X.N[i]? = some x) (hx : Loc X.env.scope x) (hf : X.fn x = true ∨ X.env.scope.names.lookup x = some .local) (ho : oty Γ i = .fz) (hv : i ∈ vs) : EG X B Γ vs (.Name x pos) (ftName i) :=
  PG.imp (pg_name hN hi hx hf) fun v σ H Q ⟨s, G, d, s', rl, rd, e, k⟩ => by
    unfold ftName at e
    split at e
    · rename_i hl
      cases e
      exact k _ ((Tmp.of_fz rl rd).set i ho (fun _ _ => rfl) (by rw [← rl.len]; exact hl)) (wipe_set σ hv)
    · cases e
def ftNil : List D → En → Option En
  | [], s => some s
  | _ :: _, _ => none
def ftCons (ft : FT) (fr : List D → En → Option En) : List D → En → Option En
  | d :: ds, s => (ft d s).bind fun s' => fr ds s'
  | [], _ => none
theorem egs_nil {vs : List Nat} : EGs X B Γ vs [] ftNil := PGs.imp pgs_nil fun xs σ H Q ⟨s, G, ds, s', rl, rd, e, k⟩ => by
  cases rd with
  | nil => cases e; exact ⟨rfl, k σ rl rfl⟩
  | cons _ _ => cases e
theorem assignEach_cons {tg : Expr} (h : noStar tg = true) (tgs : List Expr) (env : Env) : assignEach (tg :: tgs) env = (false, assign tg env) :: assignEach tgs env := by
  cases tg <;> first | rfl | cases h
theorem assignEach_len {env : Env} : ∀ {es : List Expr}, es.all noStar = true → (assignEach es env).length = es.length ∧ (assignEach es env).findIdx? (·.1) = none
  | [], _ => ⟨rfl, rfl⟩
  | e :: es, h => by
    obtain ⟨h1, h2⟩ := Bool.and_eq_true_iff.mp (show (noStar e && es.all noStar) = true from h)
    obtain ⟨i1, i2⟩ := assignEach_len (env := env) h2
    rw [assignEach_cons h1]
    exact ⟨congrArg Nat.succ i1, by rw [List.findIdx?_cons, i2]; rfl⟩
theorem egs_cons {tg : Expr} {tgs : List Expr} {vs : List Nat} {ft : FT} {fr : List D → En → Option En} (hs : noStar tg = true) (h1 : EG X B Γ vs tg ft) (h2 : EGs X B Γ vs tgs fr) : EGs X B Γ vs (tg :: tgs) (ftCons ft fr) :=
  PGs.imp (pgs_cons h1 h2 (by rw [assignEach_cons hs]; rfl)) fun xs σ H Q ⟨s, G, ds, s', rl, rd, e, k⟩ => by
    cases rd with
    | nil => cases e
    | @cons v vs' d ds' r1 rr =>
      have e : (ft d s).bind (fun s' => fr ds' s') = some s' := e
      cases h1 : ft d s with
      | none => rw [h1] at e; cases e
      | some s1 =>
        rw [h1] at e
        exact ⟨v, vs', rfl, s, G, d, s1, rl, r1, h1, fun σ1 r1' w1 => ⟨s1, G, ds', s', r1', rr, e, fun σ2 r2' w2 => k σ2 r2' (w2.trans w1)⟩⟩
def ftTup (fr : List D → En → Option En) : FT := fun d s => match d with
  | .tup ds => fr ds s
  | _ => none
theorem ftNil_len {ds : List D} {s s' : En} (h : ftNil ds s = some s') : ds.length = 0 := by
  cases ds with
  | nil => rfl
  | cons _ _ => cases h
theorem eg_tup {es : List Expr} {k : Nat} {vs : List Nat} {fr : List D → En → Option En} (hc : X.calm = true) (hs : es.all noStar = true) (hl : ∀ ds s s', fr ds s = some s' → ds.length = es.length) (h : EGs X B Γ vs es fr) : EG X B Γ vs (.Tuple es k pos) (ftTup fr) :=
  PG.imp (pg_tup hc h (assignEach_len hs).1 (assignEach_len hs).2) fun v σ H Q ⟨s, G, d, s', rl, rd, e, k⟩ => by
    unfold ftTup at e
    split at e
    · obtain ⟨a, xs, rfl, sq, l, rs⟩ := rd.tup_inv
      exact ⟨a, xs, rfl, (sq.same rl.GH).sq, by rw [rs.length]; exact hl _ _ _ e, s, G, _, s', rl, rs, e, k⟩
    · cases e
theorem ftCons_len {ft : FT} {fr : List D → En → Option En} {n : Nat} (h : ∀ ds s s', fr ds s = some s' → ds.length = n) : ∀ ds s s', ftCons ft fr ds s = some s' → ds.length = n + 1 := by
  intro ds s s' e
  cases ds with
  | nil => cases e
  | cons d ds =>
    have e : (ft d s).bind (fun s' => fr ds s') = some s' := e
    cases h1 : ft d s with
    | none => rw [h1] at e; cases e
    | some s1 => rw [h1] at e; exact congrArg Nat.succ (h _ _ _ e)

/-! ### what is walked -/
/-- the iterator J gives the data ds, as long as Z stands in the heap -/
structure ItOk (K : Frag) (J : It) (ds : List D) (G0 Z : Hp) : Prop where
  len : ds.length ≤ sizeLine
  stop : ∀ G H, Same G0 G → Same G H → Same Z H → J.stop ds.length H
  go : ∀ i d G H, ds[i]? = some d → Same G0 G → Same G H → Same Z H → J.go i H
  yld : ∀ i d G H x H2, ds[i]? = some d → Same G0 G → Same G H → Same Z H → J.yld i H x H2 → ∃ G2, Grow G H G2 H2 ∧ RD K G2 x d
def tIt (K : Frag) (B : Base) (W : WX) (Γ : Ow) (fi : En → R (List D)) : TI := fun σ H R => ∃ s G, Rel K B Γ s G σ H ∧ Done (fi s) (fun ds => ∀ J G' H', Grow G H G' H' → ItOk K J ds G' H' → R J H') (XW K W G H σ)
/-- .. the things walked being frozen -/
def tIf' (K : Frag) (B : Base) (W : WX) (Γ : Ow) (fi : En → R (List D)) : TI := fun σ H R => ∃ s G, Rel K B Γ s G σ H ∧ Done (fi s) (fun ds => ∀ J G' H', Grow G H G' H' → ItOk K J ds G' G' → R J H') (XW K W G H σ)
abbrev EI (X : Cx) (B : Base) (W : WX) (Γ : Ow) (tg it : Expr) (fi : En → R (List D)) : Prop := PI X tg it (tIt X.K B W Γ fi)
abbrev EIf (X : Cx) (B : Base) (W : WX) (Γ : Ow) (tg it : Expr) (fi : En → R (List D)) : Prop := PI X tg it (tIf' X.K B W Γ fi)
theorem PI.imp {tg it : Expr} {t t' : TI} (h : PI X tg it t) (k : ∀ σ H R, t' σ H R → t σ H R) : PI X tg it t' := ⟨fun pins s σ H R I q => h.run pins s σ H R I (k σ H R q)⟩
theorem ItOk.wide {K : Frag} {J : It} {ds : List D} {G H : Hp} (e : Same G H) (h : ItOk K J ds G G) : ItOk K J ds G H :=
  ⟨h.len, fun G1 H1 a b c => h.stop G1 H1 a b (a.trans b), fun i d G1 H1 q a b c => h.go i d G1 H1 q a b (a.trans b), fun i d G1 H1 x H2 q a b c => h.yld i d G1 H1 x H2 q a b (a.trans b)⟩
theorem EIf.bo {tg it : Expr} {fi : En → R (List D)} (h : EIf X B W Γ tg it fi) : EI X B W Γ tg it fi := PI.imp h fun σ H R ⟨s, G, rl, k⟩ => ⟨s, G, rl, k.imp (fun ds _ k J G' H' g o => k J G' H' g (o.wide g.gh)) fun _ z => z⟩
/-- a list, tuple or text, as its items -/
def dItems : D → R (List D)
  | .tup ds => .ok ds
  | .lst ds => .ok ds
  | .arr ds => .ok ds
  | _ => .stuck

theorem PI.or {tg it : Expr} {t t' : TI} (h : PI X tg it t) (h' : PI X tg it t') : PI X tg it (fun σ H R => t σ H R ∨ t' σ H R) := ⟨fun pins s σ H R I q => q.elim (h.run pins s σ H R I) (h'.run pins s σ H R I)⟩
def eItems (fa : En → R D) : En → R (List D) := fun s => fa s >>= dItems
theorem it_list {K : Frag} {a : Addr} {vs : List V} {ds : List D} {G Z : Hp} (l : vs.length ≤ sizeLine) (r : RDs K G vs ds) (hz : ∀ H, Same Z H → SqL K H a vs) : ItOk K (Itl K a) ds G Z :=
  ⟨by rw [← r.length]; exact l, fun G1 H1 _ _ h => ⟨vs, hz H1 h, Nat.le_of_eq r.length⟩,
    fun i d G1 H1 e _ _ h => by
      obtain ⟨v, ev, _⟩ := r.get e
      exact ⟨vs, v, hz H1 h, ev⟩,
    fun i d G1 H1 x H2 e g gh h y => by
      obtain ⟨rfl, y⟩ := y
      obtain ⟨v, ev, rd⟩ := r.get e
      have := y vs (hz _ h)
      rw [ev] at this
      cases this
      exact ⟨G1, .refl gh, rd.mono g⟩⟩
theorem it_tup {K : Frag} {a : Addr} {vs : List V} {ds : List D} {G Z : Hp} (l : vs.length ≤ sizeLine) (r : RDs K G vs ds) (hz : ∀ H, Same Z H → SqT K H a vs) : ItOk K (Itt K a) ds G Z :=
  ⟨by rw [← r.length]; exact l, fun G1 H1 _ _ h => ⟨vs, hz H1 h, Nat.le_of_eq r.length⟩,
    fun i d G1 H1 e _ _ h => by
      obtain ⟨v, ev, _⟩ := r.get e
      exact ⟨vs, v, hz H1 h, ev⟩,
    fun i d G1 H1 x H2 e g gh h y => by
      obtain ⟨rfl, y⟩ := y
      obtain ⟨v, ev, rd⟩ := r.get e
      have := y vs (hz _ h)
      rw [ev] at this
      cases this
      exact ⟨G1, .refl gh, rd.mono g⟩⟩
theorem dItems_cases {d : D} {P : List D → Prop} {E : Str → Prop} (k : Done (dItems d) P E) : (∃ ds, d = .tup ds ∧ P ds) ∨ (∃ ds, d = .lst ds ∧ P ds) ∨ ∃ ds, d = .arr ds ∧ P ds := by
  cases d with
  | tup ds => exact .inl ⟨ds, rfl, k⟩
  | lst ds => exact .inr (.inl ⟨ds, rfl, k⟩)
  | arr ds => exact .inr (.inr ⟨ds, rfl, k⟩)
  | _ => exact k.elim
theorem ei_items {tg : Expr} (ha : EB X B W Γ a fa) : EI X B W Γ tg a (eItems fa) := PI.imp (PI.or (pi_list ha) (pi_tup ha)) fun σ H R ⟨s, G, rl, k⟩ => by
  have k := k.bind
  cases q : fa s with
  | stuck => rw [q] at k; exact k.elim
  | exc c => rw [q] at k; exact .inl ⟨s, G, rl, by rw [q]; exact k⟩
  | ok d =>
    rw [q] at k
    rcases dItems_cases k with ⟨ds, rfl, k⟩ | ⟨ds, rfl, k⟩ | ⟨ds, rfl, k⟩
    · refine .inr ⟨s, G, rl, ?_⟩
      rw [q]
      intro v G1 H1 g1 r
      obtain ⟨a, vs, rfl, sq, l, rs⟩ := r.tup.tup_inv
      have sq := sq.same g1.gh
      exact ⟨a, rfl, ⟨vs, sq.sq⟩, k _ G1 H1 g1 (it_tup l rs fun H' h => (sq.same h).sq)⟩
    · refine .inl ⟨s, G, rl, ?_⟩
      rw [q]
      intro v G1 H1 g1 r
      obtain ⟨a, vs, rfl, sq, l, rs⟩ := r.lst g1.gh
      exact ⟨a, rfl, ⟨vs, .inl (.inl sq)⟩, k _ G1 H1 g1 (it_list l rs fun H' h => .inl (.inl (h _ _ sq)))⟩
    · refine .inl ⟨s, G, rl, ?_⟩
      rw [q]
      intro v G1 H1 g1 r
      obtain ⟨a, vs, rfl, sq, l, rs⟩ := r.arr g1.gh
      exact ⟨a, rfl, ⟨vs, sq⟩, k _ G1 H1 g1 (it_list l rs fun H' h => h.seq sq)⟩
theorem eif_items {tg : Expr} (ha : EV X B W Γ a fa) : EIf X B W Γ tg a (eItems fa) := PI.imp (PI.or (pi_list ha) (pi_tup ha)) fun σ H R ⟨s, G, rl, k⟩ => by
  have k := k.bind
  cases q : fa s with
  | stuck => rw [q] at k; exact k.elim
  | exc c => rw [q] at k; exact .inl ⟨s, G, rl, by rw [q]; exact k⟩
  | ok d =>
    rw [q] at k
    rcases dItems_cases k with ⟨ds, rfl, k⟩ | ⟨ds, rfl, k⟩ | ⟨ds, rfl, k⟩
    · refine .inr ⟨s, G, rl, ?_⟩
      rw [q]
      intro v G1 H1 g1 r
      obtain ⟨a, vs, rfl, sq, l, rs⟩ := r.tup_inv
      exact ⟨a, rfl, ⟨vs, (sq.same g1.gh).sq⟩, k _ G1 H1 g1 (it_tup l rs fun H' h => (sq.same h).sq)⟩
    · refine .inl ⟨s, G, rl, ?_⟩
      rw [q]
      intro v G1 H1 g1 r
      cases r with
      | lst sq l rs => exact ⟨_, rfl, ⟨_, .inl (.inl (g1.gh _ _ sq))⟩, k _ G1 H1 g1 (it_list l rs fun H' h => .inl (.inl (h _ _ sq)))⟩
    · refine .inl ⟨s, G, rl, ?_⟩
      rw [q]
      intro v G1 H1 g1 r
      cases r with
      | arr sq l rs => exact ⟨_, rfl, ⟨_, g1.gh.seq sq⟩, k _ G1 H1 g1 (it_list l rs fun H' h => h.seq sq)⟩
/-- range(n), range(a, b) -/
def rngD (lo : Int) (n : Nat) : List D := (List.range n).map fun (i : Nat) => .int (lo + (i : Int))
def eRng1 (fs : En → R (List D)) : En → R (List D) := fun s => fs s >>= fun ds => match ds with
  | [.int j] => if -(2 ^ 62) ≤ j ∧ j ≤ 16777216 then .ok (rngD 0 j.toNat) else .stuck
  | _ => .stuck
def eRng2 (fs : En → R (List D)) : En → R (List D) := fun s => fs s >>= fun ds => match ds with
  | [.int i, .int j] => if (-(2 ^ 62) ≤ i ∧ i < 2 ^ 62 ∧ -(2 ^ 62) ≤ j ∧ j < 2 ^ 62) ∧ j - i ≤ 16777216 then .ok (rngD i (j - i).toNat) else .stuck
  | _ => .stuck
theorem it_rng {K : Frag} {G Z : Hp} (lo : Int) (n : Nat) (h : n ≤ sizeLine) : ItOk K (Itr lo n) (rngD lo n) G Z := by
  have hl : (rngD lo n).length = n := by unfold rngD; rw [List.length_map, List.length_range]
  refine ⟨by rw [hl]; exact h, fun _ _ _ _ _ => by show n ≤ _; rw [hl]; exact Nat.le_refl _, fun i d _ _ e _ _ _ => ?_, fun i d G1 H1 x H2 e g gh _ y => ?_⟩
  · have := (List.getElem?_eq_some_iff.mp e).1
    rw [hl] at this
    exact this
  · obtain ⟨rfl, rfl⟩ := y
    unfold rngD at e
    rw [List.getElem?_map] at e
    cases q : (List.range n)[i]? with
    | none => rw [q] at e; cases e
    | some j =>
      rw [q] at e
      cases e
      have hj : j = i := by
        obtain ⟨hi, e⟩ := List.getElem?_eq_some_iff.mp q
        rw [← e, List.getElem_range]
      subst hj
      exact ⟨G1, .refl gh, .int _⟩
theorem eif_rng1 {tg : Expr} {fs : En → R (List D)} {p : Pos} (hs : noStar a = true) (hg : Gl X "range") (hm : X.mg "range" = none) (ha : EVs X B W Γ [a] fs) : EIf X B W Γ tg (.Call (.Name "range" p) [a] [] pos) (eRng1 fs) :=
  PI.imp (pi_range1 hg hm ha (noStar_ok hs _ _)) fun σ H R ⟨s, G, rl, k⟩ => ⟨s, G, rl, k.bind.imp (fun ds _ k vs G1 H1 g1 rs => by
    split at k
    · obtain ⟨hl, k⟩ := k.ite
      cases rs with
      | cons r rr =>
        cases rr
        cases r.int_inv
        exact ⟨_, rfl, hl.1, by omega, k _ G1 H1 g1 (it_rng 0 _ (by rw [sizeLine_eq]; omega))⟩
    · exact k.elim) fun _ z => z⟩
theorem eif_rng2 {tg : Expr} {fs : En → R (List D)} {p : Pos} (hs : noStar a = true) (hs2 : noStar b = true) (hg : Gl X "range") (hm : X.mg "range" = none) (ha : EVs X B W Γ [a, b] fs) : EIf X B W Γ tg (.Call (.Name "range" p) [a, b] [] pos) (eRng2 fs) :=
  PI.imp (pi_range2 hg hm ha (by rw [noStar_ok hs, noStar_ok hs2]; rfl) (noStar_ok hs2 _ _)) fun σ H R ⟨s, G, rl, k⟩ => ⟨s, G, rl, k.bind.imp (fun ds _ k vs G1 H1 g1 rs => by
    split at k
    · obtain ⟨hl, k⟩ := k.ite
      cases rs with
      | cons r rr =>
        cases rr with
        | cons r2 rr =>
          cases rr
          cases r.int_inv
          cases r2.int_inv
          exact ⟨_, _, rfl, hl.1, k _ G1 H1 g1 (it_rng _ _ (by rw [sizeLine_eq]; omega))⟩
    · exact k.elim) fun _ z => z⟩

/-! ### comprehensions -/
def R.nox {α : Type} : R α → R α
  | .exc _ => .stuck
  | x => x
def wipeE (s : En) : List Nat → En
  | [] => s
  | v :: vs => (wipeE s vs).set v none
theorem wipeE_len (s : En) : ∀ vs : List Nat, (wipeE s vs).length = s.length
  | [] => rfl
  | v :: vs => by unfold wipeE; rw [List.length_set, wipeE_len s vs]
theorem wipeE_some {s : En} {i : Nat} {d : D} : ∀ {vs : List Nat}, (wipeE s vs)[i]? = some (some d) → s[i]? = some (some d) ∧ i ∉ vs
  | [], h => ⟨h, by simp⟩
  | v :: vs, h => by
    unfold wipeE at h
    rcases getElem?_set_cases h with ⟨_, e⟩ | ⟨ne, e⟩
    · cases e
    · obtain ⟨h1, h2⟩ := wipeE_some e
      exact ⟨h1, by simp [ne, h2]⟩
theorem wipe_keep {σ : St} {i : Nat} {v : V} : ∀ {vs : List Nat}, i ∉ vs → σ[i]? = some (some v) → (wipe σ vs)[i]? = some (some v)
  | [], _, h => h
  | w :: vs, hn, h => by
    unfold wipe
    rw [List.getElem?_set_ne fun z => hn (by rw [z]; exact List.mem_cons_self ..)]
    exact wipe_keep (fun z => hn (List.mem_cons_of_mem _ z)) h
theorem Rel.wiped {K : Frag} {s : En} {G H : Hp} {σ : St} (r : Rel K B Γ s G σ H) (vs : List Nat) : Rel K B Γ (wipeE s vs) G (wipe σ vs) H :=
  r.forget (by rw [wipeE_len, wipe_len]; exact r.len) fun i d e => by
    obtain ⟨h1, h2⟩ := wipeE_some e
    exact ⟨h1, fun v hv => wipe_keep h2 hv⟩
theorem wipe_wipe (σ : St) : ∀ vs : List Nat, wipe (wipe σ vs) vs = wipe σ vs := by
  have key : ∀ (ws : List Nat) (i : Nat), i ∈ ws → (wipe σ ws).set i none = wipe σ ws := by
    intro ws
    induction ws with
    | nil => intro i h; cases h
    | cons w ws ih =>
      intro i h
      unfold wipe
      by_cases e : w = i
      · subst e; rw [List.set_set]
      · have : i ∈ ws := by
          rcases List.mem_cons.mp h with q | q
          · exact absurd q.symm e
          · exact q
        rw [List.set_comm _ _ e, ih i this]
  intro vs
  have gen : ∀ ws : List Nat, (∀ i ∈ ws, i ∈ vs) → wipe (wipe σ vs) ws = wipe σ vs := by
    intro ws
    induction ws with
    | nil => intro _; rfl
    | cons w ws ih =>
      intro h
      show (wipe (wipe σ vs) ws).set w none = _
      rw [ih fun i hi => h i (List.mem_cons_of_mem _ hi)]
      exact key vs w (h w (List.mem_cons_self ..))
  exact gen vs fun _ h => h
/-- the turns of a comprehension, what is made so far first -/
def lcA (turn : D → R (Option D)) : List D → List D → R (List D)
  | [], acc => .ok acc
  | d :: ds, acc => turn d >>= fun o => lcA turn ds (acc ++ o.toList)
/-- one turn in the environment s -/
def lcT (ft : FT) (gt : En → R Bool) (fe : En → R D) (s : En) (d : D) : R (Option D) := R.of (ft d s) >>= fun s1 => (gt s1).nox >>= fun b => if b then (fe s1).nox >>= fun y => .ok (some y) else .ok none
def eLc (vs : List Nat) (ft : FT) (fi : En → R (List D)) (gt : En → R Bool) (fe : En → R D) : En → R D := fun s => fi s >>= fun ds => lcA (lcT ft gt fe (wipeE s vs)) ds [] >>= fun out => .ok (.lst out)
abbrev W0 : WX := fun _ _ _ _ => False
abbrev ETs (X : Cx) (B : Base) (W : WX) (Γ : Ow) (es : List Expr) (f : En → R Bool) : Prop := PTs X es (tTe X.K B W Γ f)
theorem Done.nox {α : Type} {x : R α} {P : α → Prop} {E E' : Str → Prop} (h : Done x.nox P E) : Done x P E' := by
  cases x with
  | ok a => exact h
  | exc c => exact h.elim
  | stuck => exact h
theorem lcT_done {ft : FT} {gt : En → R Bool} {fe : En → R D} {s : En} {d : D} {o : Option D} (h : lcT ft gt fe s d = .ok o) : ∃ s1, ft d s = some s1 ∧ ((∃ y, gt s1 = .ok true ∧ fe s1 = .ok y ∧ o = some y) ∨ (gt s1 = .ok false ∧ o = none)) := by
  unfold lcT at h
  cases h1 : ft d s with
  | none => rw [h1] at h; cases h
  | some s1 =>
    rw [h1] at h
    refine ⟨s1, rfl, ?_⟩
    have h : ((gt s1).nox >>= fun b => if b then (fe s1).nox >>= fun y => R.ok (some y) else .ok none) = .ok o := h
    cases h2 : gt s1 with
    | exc c => rw [h2] at h; cases h
    | stuck => rw [h2] at h; cases h
    | ok b =>
      rw [h2] at h
      cases b with
      | false => cases h; exact .inr ⟨rfl, rfl⟩
      | true =>
        have h : ((fe s1).nox >>= fun y => R.ok (some y)) = .ok o := h
        cases h3 : fe s1 with
        | exc c => rw [h3] at h; cases h
        | stuck => rw [h3] at h; cases h
        | ok y => rw [h3] at h; cases h; exact .inl ⟨y, rfl, rfl, rfl⟩
theorem lcT_noexc (ft : FT) (gt : En → R Bool) (fe : En → R D) (s : En) (d : D) (c : Str) : lcT ft gt fe s d ≠ .exc c := by
  unfold lcT
  cases ft d s with
  | none => exact fun z => nomatch z
  | some s1 =>
    show ((gt s1).nox >>= fun b => if b then (fe s1).nox >>= fun y => R.ok (some y) else .ok none) ≠ _
    cases gt s1 with
    | exc c => exact fun z => nomatch z
    | stuck => exact fun z => nomatch z
    | ok b =>
      cases b with
      | false => exact fun z => nomatch z
      | true =>
        show ((fe s1).nox >>= fun y => R.ok (some y)) ≠ _
        cases fe s1 <;> exact fun z => nomatch z
theorem lcA_noexc {turn : D → R (Option D)} (h : ∀ d c, turn d ≠ .exc c) : ∀ (ds acc : List D) (c : Str), lcA turn ds acc ≠ .exc c
  | [], _, _ => fun z => nomatch z
  | d :: ds, acc, c => by
    unfold lcA
    cases q : turn d with
    | ok o => exact lcA_noexc h ds _ c
    | exc c' => exact absurd q (h d c')
    | stuck => exact fun z => nomatch z
theorem drop_at {α : Type} {l : List α} {i : Nat} (h : i < l.length) : ∃ d, l[i]? = some d ∧ l.drop i = d :: l.drop (i + 1) := ⟨l[i], by simp [h], List.drop_eq_getElem_cons h⟩
theorem lc_ok {σ : St} {s : En} {G1 H1 : Hp} {ds out : List D} {vs : List Nat} {ft : FT} {gt : En → R Bool} {fe : En → R D} {J : It} {D' : Addr} {Q : VK} (rl : Rel X.K B Γ s G1 σ H1) (it : ItOk X.K J ds G1 H1) (hD : H1 D' = none)
    (h : lcA (lcT ft gt fe (wipeE s vs)) ds [] = .ok out) (k : ∀ G H, Grow G1 H1 G H → New X.K H1 G H (.ref D') (.lst out) (.own .fz) → Q (.ref D') H) :
    ∃ Wi : Nat → Nat → Hp → Prop, (∃ m, Wi 0 m (upd H1 D' (.lst []))) ∧ ∀ i m H, Wi i m H →
      (J.stop i H ∧ Q (.ref D') H) ∨ (J.go i H ∧ ∃ Nx : Hp → Prop, (∀ H', Nx H' → ∃ m', m' < m ∧ Wi (i + 1) m' H') ∧ ∀ x H', J.yld i H x H' → tTg X.K B Γ vs ft x (wipe σ vs) H' fun σ2 H2 => wipe σ2 vs = wipe σ vs ∧ tTe X.K B W0 Γ gt σ2 H2 fun b H3 =>
        if b = true then tV X.K B W0 Γ fe σ2 H3 fun y H4 => ∃ acc, H4 D' = some (.lst acc) ∧ acc.length < sizeLine ∧ Nx (upd H4 D' (.lst (acc ++ [y]))) else Nx H3) := by
  let P : Nat → Hp → Prop := fun i H => i ≤ ds.length ∧ ∃ G av ad, Grow G1 H1 G H ∧ G D' = none ∧ H D' = some (.lst av) ∧ av.length ≤ i ∧ RDs X.K G av ad ∧ lcA (lcT ft gt fe (wipeE s vs)) (ds.drop i) ad = .ok out
  refine ⟨fun i m H => m = ds.length - i ∧ P i H, ⟨ds.length, by simp, Nat.zero_le _, G1, [], [], ?_, rl.GH.free hD, upd_same, Nat.le_refl _, .nil, h⟩, ?_⟩
  · exact ⟨.refl _, Same.upd hD, rl.GH.trans (Same.upd hD), fun _ z _ => z⟩
  · rintro i m H ⟨rfl, hi, G, av, ad, g, gD, hHD, la, ra, hl⟩
    by_cases hlt : i < ds.length
    · obtain ⟨d, ed, dr⟩ := drop_at hlt
      rw [dr] at hl
      have hl : (lcT ft gt fe (wipeE s vs) d >>= fun o => lcA (lcT ft gt fe (wipeE s vs)) (ds.drop (i + 1)) (ad ++ o.toList)) = .ok out := hl
      cases ht : lcT ft gt fe (wipeE s vs) d with
      | exc c => exact absurd ht (lcT_noexc _ _ _ _ _ _)
      | stuck => rw [ht] at hl; cases hl
      | ok o =>
      rw [ht] at hl
      have hl : lcA (lcT ft gt fe (wipeE s vs)) (ds.drop (i + 1)) (ad ++ o.toList) = .ok out := hl
      obtain ⟨s1, e1, ht⟩ := lcT_done ht
      refine .inr ⟨it.go i d G H ed g.g g.gh g.h, P (i + 1), fun H' p => ⟨ds.length - (i + 1), by omega, rfl, p⟩, fun x H' y => ?_⟩
      obtain ⟨G2, g2, rd⟩ := it.yld i d G H x H' ed g.g g.gh g.h y
      have r2 : Rel X.K B Γ (wipeE s vs) G2 (wipe σ vs) H' := ((rl.grow g).grow g2).wiped vs
      refine ⟨wipeE s vs, G2, d, s1, r2, rd, e1, fun σ2 r3 w => ⟨w.trans (wipe_wipe σ vs), s1, G2, r3, ?_⟩⟩
      have hD2 : H' D' = some (.lst av) := g2.h _ _ hHD
      have gD2 : G2 D' = none := g2.nw D' gD ⟨_, hHD, fun _ z => nomatch z⟩
      rcases ht with ⟨yd, b1, b2, rfl⟩ | ⟨b1, rfl⟩
      · rw [b1]
        intro G3 H3 g3
        have hD3 : H3 D' = some (.lst av) := g3.h _ _ hD2
        have gD3 : G3 D' = none := g3.nw D' gD2 ⟨_, hD2, fun _ z => nomatch z⟩
        rw [if_pos rfl]
        refine ⟨s1, G3, r3.grow g3, ?_⟩
        rw [b2]
        intro y G4 H4 g4 ry
        have hD4 : H4 D' = some (.lst av) := g4.h _ _ hD3
        have gD4 : G4 D' = none := g4.nw D' gD3 ⟨_, hD3, fun _ z => nomatch z⟩
        have hsz := it.len
        have gg : Grow G1 H1 G4 H4 := ((g.trans g2).trans g3).trans g4
        refine ⟨av, hD4, by omega, hlt, G4, av ++ [y], ad ++ [yd], ⟨gg.g, ?_, ?_, gg.nw⟩, gD4, upd_same, by rw [List.length_append, List.length_singleton]; omega, (ra.mono ((g2.trans g3).trans g4).g).append (.cons ry .nil), hl⟩
        · exact fun b o q => by rw [upd_ne (ne_of_none q hD)]; exact gg.h _ _ q
        · exact fun b o q => by rw [upd_ne (ne_of_none q gD4)]; exact gg.gh _ _ q
      · rw [b1]
        intro G3 H3 g3
        rw [if_neg Bool.false_ne_true]
        rw [Option.toList_none, List.append_nil] at hl
        exact ⟨hlt, G3, av, ad, (g.trans g2).trans g3, g3.nw D' gD2 ⟨_, hD2, fun _ z => nomatch z⟩, g3.h _ _ hD2, by omega, ra.mono (g2.trans g3).g, hl⟩
    · have e : i = ds.length := by omega
      subst e
      rw [List.drop_length] at hl
      cases hl
      refine .inl ⟨it.stop G H g.g g.gh g.h, k G H g ⟨[D'], .ol hHD ?_ (OWs.fzs ra), by simp, fun a m => ?_⟩⟩
      · have := it.len; omega
      · have : a = D' := by simpa using m
        subst this
        exact ⟨hD, ⟨_, hHD, fun _ z => nomatch z⟩, gD⟩
theorem lc_read {σ : St} {H : Hp} {Q : VK} {vs : List Nat} {ft : FT} {fi : En → R (List D)} {gt : En → R Bool} {fe : En → R D} (k : tOw X.K B W Γ (.own .fz) (eLc vs ft fi gt fe) σ H Q) :
    tLc (tIt X.K B W Γ fi) (tTg X.K B Γ vs ft) (tTe X.K B W0 Γ gt) (tV X.K B W0 Γ fe) vs σ H Q := by
  obtain ⟨s, G, rl, k⟩ := k
  refine ⟨s, G, rl, k.bind.imp (fun ds _ k J G1 H1 g1 it D' hD => ?_) fun _ z => z⟩
  obtain ⟨out, e, k⟩ := k.bind.ok (lcA_noexc (lcT_noexc _ _ _ _) _ _)
  exact lc_ok (rl.grow g1) it hD e fun G2 H2 g2 n => k _ G2 H2 (g1.trans g2) (n.grow g1.h)
def notSet : Expr → Bool
  | .Set _ _ _ => false
  | _ => true
theorem folded_ok {it : Expr} (h : notSet it = true) (env : Env) (x : Value) : foldedSetIterable it env x = pure x := by
  cases it <;> first | rfl | cases h
theorem eo_lc {elt tg it : Expr} {ifs : List Expr} {scope : Scope} {own : List (Str × Nat)} {vs : List Nat} {ft : FT} {fi : En → R (List D)} {gt : En → R Bool} {fe : En → R D} (hc : X.calm = true) (hN : X.N.Nodup) (hv : own.map (·.2) = vs) (hst : notSet it = true)
    (hi : EI X B W Γ tg it fi) (ok : BlkOk X.N X.env.scope scope own)
    (hg : ∀ (s : Shared) (H : Hp) (C : Addr) (cl : List (Str × Addr)) (fp : List Addr), EG (X.blk s H scope (compEnvC scope cl C X.env) fp) B Γ vs tg ft)
    (ht : ∀ (s : Shared) (H : Hp) (C : Addr) (cl : List (Str × Addr)) (fp : List Addr), ETs (X.blk s H scope (compEnvC scope cl C X.env) fp) B W0 Γ ifs gt)
    (he : ∀ (s : Shared) (H : Hp) (C : Addr) (cl : List (Str × Addr)) (fp : List Addr), EV (X.blk s H scope (compEnvC scope cl C X.env) fp) B W0 Γ elt fe) :
    EO X B W Γ (.own .fz) (.ListComp elt [⟨tg, it, ifs, 0⟩] scope pos) (eLc vs ft fi gt fe) := by
  subst hv
  exact PE.imp (pe_lc hc hN hi ok hg ht he (folded_ok hst X.env)) fun σ H Q k => lc_read k
def eYes : En → R Bool := fun _ => .ok true
theorem ets_nil : ETs X B W Γ [] eYes := ⟨fun pins s σ H Q I ⟨s', G, rl, k⟩ => pts_nil.run pins s σ H Q I (k G H (.refl rl.GH))⟩
theorem ets_one {g : En → R Bool} (h : ET X B W Γ a g) : ETs X B W Γ [a] g := pts_one h
end
end Hr

end
section
/-! HrG: statements -/
namespace Hr
open PySem PySem.Spec L2

inductive Out where
  | nx (s : En) | rt (d : D) | bk (s : En) | ct (s : En) | ex (c : Str) (s : En) | stuck

/-- what is wanted behind a statement: Γn behind it, Γl at a loop's turns, Γx where an exception leaves it, t: how a result is owned -/
structure OC where
  l : Ow := []
  x : Ow := []
  t : OT := .fz
def Fin (K : Frag) (B : Base) (W : WX) (Γn : Ow) (o : OC) (G : Hp) (Dn : Ends) : Out → Prop
  | .nx s => ∀ σ G' H', Same G G' → Rel K B Γn s G' σ H' → Dn.nx σ H'
  | .bk s => ∀ σ G' H', Same G G' → Rel K B o.l s G' σ H' → Dn.bk σ H'
  | .ct s => ∀ σ G' H', Same G G' → Rel K B o.l s G' σ H' → Dn.ct σ H'
  | .rt d => ∀ v G' H', Grow B.G0 B.H0 G' H' → New K B.H0 G' H' v d o.t → Dn.rt v H'
  | .ex c s => ∀ σ G' H', Same G G' → Rel K B o.x s G' σ H' → W (clsV K c) none σ H'
  | .stuck => False
def tS (K : Frag) (B : Base) (W : WX) (Γ Γn : Ow) (o : OC) (f : En → Out) : TS := fun Dn σ H => ∃ s G, Rel K B Γ s G σ H ∧ Fin K B W Γn o G Dn (f s)
theorem Fin.mono {K : Frag} {B : Base} {W : WX} {Γn : Ow} {o : OC} {G G1 : Hp} {Dn : Ends} (e : Same G G1) {r : Out} (h : Fin K B W Γn o G Dn r) : Fin K B W Γn o G1 Dn r := by
  cases r with
  | nx s => exact fun σ G' H' g r => h σ G' H' (e.trans g) r
  | bk s => exact fun σ G' H' g r => h σ G' H' (e.trans g) r
  | ct s => exact fun σ G' H' g r => h σ G' H' (e.trans g) r
  | rt d => exact h
  | ex c s => exact fun σ G' H' g r => h σ G' H' (e.trans g) r
  | stuck => exact h

/-- Γ' : some owned slots of Γ frozen -/
def leO (Γ Γ' : Ow) : Prop := ∀ i, oty Γ' i = oty Γ i ∨ oty Γ' i = .fz
theorem oty_none {Γ : Ow} {i : Nat} (h : i ∉ Γ.map (·.1)) : oty Γ i = .fz := by
  unfold oty
  have : Γ.lookup i = none := by
    rw [List.lookup_eq_none_iff]
    intro p hp
    exact bne_iff_ne.mpr fun z => h (List.mem_map.mpr ⟨p, hp, z.symm⟩)
  rw [this]; rfl
def leB (Γ Γ' : Ow) : Bool := (Γ'.map (·.1)).all fun i => decide (oty Γ' i = oty Γ i) || decide (oty Γ' i = .fz)
theorem leB_ok {Γ Γ' : Ow} (h : leB Γ Γ' = true) : leO Γ Γ' := fun i => by
  by_cases m : i ∈ Γ'.map (·.1)
  · have := List.all_eq_true.mp h i m
    simpa [Bool.or_eq_true, decide_eq_true_eq] using this
  · exact .inr (oty_none m)
theorem leO.refl (Γ : Ow) : leO Γ Γ := fun _ => .inl rfl
theorem Rel.weaken {K : Frag} {B : Base} {Γ Γ' : Ow} {s : En} {G : Hp} {σ : St} {H : Hp} (r : Rel K B Γ s G σ H) (le : leO Γ Γ') : ∃ G', Same G G' ∧ Rel K B Γ' s G' σ H := by
  have step : ∀ n, ∃ G' Γ1, Same G G' ∧ Rel K B Γ1 s G' σ H ∧ ∀ i, oty Γ1 i = if i < n then oty Γ' i else oty Γ i := by
    intro n
    induction n with
    | zero => exact ⟨G, Γ, .refl _, r, fun i => by rw [if_neg (Nat.not_lt_zero _)]⟩
    | succ n ih =>
      obtain ⟨G1, Γ1, g, r1, h1⟩ := ih
      by_cases e : oty Γ' n = oty Γ1 n
      · refine ⟨G1, Γ1, g, r1, fun i => ?_⟩
        rw [h1 i]
        by_cases a : i < n
        · rw [if_pos a, if_pos (by omega)]
        · rw [if_neg a]
          by_cases b : i < n + 1
          · have : i = n := by omega
            subst this
            rw [if_pos b, e, h1, if_neg a]
          · rw [if_neg b]
      · have hz : oty Γ' n = .fz := by
          rcases le n with q | q
          · rw [h1 n, if_neg (Nat.lt_irrefl _)] at e
            exact absurd q e
          · exact q
        have ot : ∀ j, oty ((n, OT.fz) :: Γ1) j = if j = n then OT.fz else oty Γ1 j := by
          intro j
          unfold oty
          rw [List.lookup_cons]
          by_cases q : j = n
          · subst q; simp
          · rw [if_neg q, beq_eq_false_iff_ne.mpr q]
        obtain ⟨G2, g2, r2⟩ := r1.freeze (Γ' := (n, .fz) :: Γ1) n (by rw [ot, if_pos rfl]) (fun j hj => by rw [ot, if_neg hj])
        refine ⟨G2, _, g.trans g2, r2, fun i => ?_⟩
        rw [ot]
        by_cases q : i = n
        · subst q
          rw [if_pos rfl, if_pos (Nat.lt_succ_self _), hz]
        · rw [if_neg q, h1 i]
          by_cases a : i < n
          · rw [if_pos a, if_pos (by omega)]
          · rw [if_neg a, if_neg (by omega)]
  obtain ⟨G', Γ1, g, r1, h1⟩ := step s.length
  refine ⟨G', g, r1.len, ?_, r1.hH, r1.hG, r1.GH, r1.fr⟩
  obtain ⟨φ, sl, hf⟩ := r1.sl
  refine ⟨φ, ⟨fun i d e => ?_, sl.nd, sl.dj, sl.ok⟩, hf⟩
  obtain ⟨v, e1, o⟩ := sl.at_ i d e
  rw [h1 i, if_pos (List.getElem?_eq_some_iff.mp e).1] at o
  exact ⟨v, e1, o⟩

section
variable {X : Cx} {B : Base} {W : WX} {Γ Γ1 Γn : Ow} {o : OC} {e a b c : Expr} {f g : En → Out} {fa fb fc : En → R D} {pos : Pos} {st : Stmt} {sts : List Stmt}
abbrev SV (X : Cx) (B : Base) (W : WX) (Γ Γn : Ow) (o : OC) (st : Stmt) (f : En → Out) : Prop := PS X st (tS X.K B W Γ Γn o f)
abbrev SVs (X : Cx) (B : Base) (W : WX) (Γ Γn : Ow) (o : OC) (sts : List Stmt) (f : En → Out) : Prop := PSs X sts (tS X.K B W Γ Γn o f)
theorem PS.imp {t t' : TS} (h : PS X st t) (k : ∀ Dn σ H, t' Dn σ H → t Dn σ H) : PS X st t' := ⟨fun pins s σ H Dn I q => h.run pins s σ H Dn I (k Dn σ H q)⟩
theorem PSs.imp {t t' : TS} (h : PSs X sts t) (k : ∀ Dn σ H, t' Dn σ H → t Dn σ H) : PSs X sts t' := ⟨fun pins s σ H Dn I q => h.run pins s σ H Dn I (k Dn σ H q)⟩

/-! ### blocks -/
def sSkip : En → Out := fun s => .nx s
def sSeq (f g : En → Out) : En → Out := fun s => match f s with
  | .nx s' => g s'
  | r => r
theorem svs_nil (le : leO Γ Γn) : SVs X B W Γ Γn o [] sSkip := PSs.imp pss_nil fun Dn σ H ⟨s, G, rl, k⟩ => by
  obtain ⟨G', g, r⟩ := rl.weaken le
  exact k σ G' H g r
theorem svs_cons (h1 : SV X B W Γ Γ1 o st f) (h2 : SVs X B W Γ1 Γn o sts g) : SVs X B W Γ Γn o (st :: sts) (sSeq f g) :=
  PSs.imp (pss_cons h1 h2) fun Dn σ H ⟨s, G, rl, k⟩ => by
    refine ⟨s, G, rl, ?_⟩
    unfold sSeq at k
    cases q : f s with
    | nx s' =>
      rw [q] at k
      exact fun σ' G' H' g' r => ⟨s', G', r, k.mono g'⟩
    | bk s' => rw [q] at k; exact k
    | ct s' => rw [q] at k; exact k
    | rt d => rw [q] at k; exact k
    | ex c s' => rw [q] at k; exact k
    | stuck => rw [q] at k; exact k
theorem svs_pre (le : leO Γ Γ1) (h : SVs X B W Γ1 Γn o sts f) : SVs X B W Γ Γn o sts f := PSs.imp h fun Dn σ H ⟨s, G, rl, k⟩ => by
  obtain ⟨G', g, r⟩ := rl.weaken le
  exact ⟨s, G', r, k.mono g⟩
theorem sv_pass (le : leO Γ Γn) : SV X B W Γ Γn o (.Pass pos) sSkip := PS.imp ps_pass fun Dn σ H ⟨s, G, rl, k⟩ => by
  obtain ⟨G', g, r⟩ := rl.weaken le
  exact k σ G' H g r
def sBrk : En → Out := fun s => .bk s
def sCnt : En → Out := fun s => .ct s
theorem sv_brk (le : leO Γ o.l) : SV X B W Γ Γn o (.Break pos) sBrk := PS.imp ps_break fun Dn σ H ⟨s, G, rl, k⟩ => by
  obtain ⟨G', g, r⟩ := rl.weaken le
  exact k σ G' H g r
theorem sv_cnt (le : leO Γ o.l) : SV X B W Γ Γn o (.Continue pos) sCnt := PS.imp ps_continue fun Dn σ H ⟨s, G, rl, k⟩ => by
  obtain ⟨G', g, r⟩ := rl.weaken le
  exact k σ G' H g r

/-! ### values into statements -/
/-- what a statement does with a value -/
def R.go {α : Type} (x : R α) (s : En) (k : α → Out) : Out := match x with
  | .ok a => k a
  | .exc c => .ex c s
  | .stuck => .stuck
theorem Fin.go {α : Type} {K : Frag} {G H : Hp} {Dn : Ends} {σ : St} {s : En} {x : R α} {k : α → Out} (rl : Rel K B Γ s G σ H) (le : leO Γ o.x) (h : Fin K B W Γn o G Dn (x.go s k)) : Done x (fun a => Fin K B W Γn o G Dn (k a)) (XW K W G H σ) := by
  cases x with
  | ok a => exact h
  | exc c =>
    intro G' H' g
    obtain ⟨G2, g2, r2⟩ := (rl.grow g).weaken le
    exact h σ G2 H' (g.g.trans g2) r2
  | stuck => exact h
def outO : Option En → Out
  | some s => .nx s
  | none => .stuck
/-- target = value (frozen) -/
def sAsg (ft : FT) (fa : En → R D) : En → Out := fun s => (fa s).go s fun d => outO (ft d s)
theorem asg_read {vs : List Nat} {ft : FT} (lx : leO Γ o.x) : ∀ Dn σ H, tS X.K B W Γ Γ o (sAsg ft fa) Dn σ H → tAsg (tV X.K B W Γ fa) (tTg X.K B Γ vs ft) Dn σ H := fun Dn σ H ⟨s, G, rl, k⟩ =>
  ⟨s, G, rl, (Fin.go rl lx k).imp (fun d _ k v G1 H1 g1 r => by
    cases q : ft d s with
    | none => rw [q] at k; exact k.elim
    | some s' =>
      rw [q] at k
      exact ⟨s, G1, d, s', rl.grow g1, r, q, fun σ' r' _ => k σ' G1 H1 g1.g r'⟩) fun _ z => z⟩
theorem sv_asg {tg : Expr} {vs : List Nat} {ft : FT} (lx : leO Γ o.x) (hs : swapsWithSole [tg] e pos.line X.env = pure false) (hw : swappedStores [tg] e X.env = pure none) (hst : noStar tg = true)
    (he : EV X B W Γ e fa) (hg : EG X B Γ vs tg ft) : SV X B W Γ Γ o (.Assign [tg] e pos) (sAsg ft fa) :=
  PS.imp (ps_asg he hg hs hw (by rw [assignEach_cons hst]; rfl)) (asg_read lx)
/-- name = value, owned -/
theorem own_read {i : Nat} {t : OT} (lx : leO Γ o.x) (ht : oty Γ1 i = t) (hΓ : ∀ j, j ≠ i → oty Γ1 j = oty Γ j) : ∀ Dn σ H, tS X.K B W Γ Γ1 o (sAsg (ftName i) fa) Dn σ H → tAsg (tOw X.K B W Γ t fa) (gName i) Dn σ H := fun Dn σ H ⟨s, G, rl, k⟩ =>
  ⟨s, G, rl, (Fin.go rl lx k).imp (fun d _ k v G1 H1 g1 n => by
    unfold ftName at k
    by_cases hl : i < s.length
    · rw [if_pos hl] at k
      have r1 := rl.grow g1
      obtain ⟨φ, sl, hf⟩ := r1.sl
      obtain ⟨φ0, sl0, hf0⟩ := rl.sl
      obtain ⟨fq, ow, nd, ok⟩ := n
      have tm : Tmp X.K B Γ s G1 σ H1 v d t := by
        refine ⟨r1, φ0, fq, ⟨fun j d' q => ?_, sl0.nd, sl0.dj, fun j a m => ?_⟩, hf0, ow, nd, fun j a m q => (sl0.ok j a m).1.ne (ok a q).1, fun a m => ⟨(ok a m).2.1, (ok a m).2.2, ?_⟩⟩
        · obtain ⟨v', q1, o'⟩ := sl0.at_ j d' q
          exact ⟨v', q1, o'.mono g1.g fun a _ u z => g1.h a u z⟩
        · obtain ⟨h1, h2⟩ := sl0.ok j a m
          exact ⟨h1.mono g1.h, g1.nw a h2 h1⟩
        · exact rl.hH.free (ok a m).1
      exact k _ G1 H1 g1.g (tm.set i ht hΓ (by rw [← rl.len]; exact hl))
    · rw [if_neg hl] at k; exact k.elim) fun _ z => z⟩
theorem sv_own {i : Nat} {x : Str} {p : Pos} {t : OT} (lx : leO Γ o.x) (ht : oty Γ1 i = t) (hΓ : ∀ j, j ≠ i → oty Γ1 j = oty Γ j) (hs : swapsWithSole [.Name x p] e pos.line X.env = pure false) (hw : swappedStores [.Name x p] e X.env = pure none)
    (hN : X.N.Nodup) (hi : X.N[i]? = some x) (hx : Loc X.env.scope x) (hf : X.fn x = true ∨ X.env.scope.names.lookup x = some .local) (he : EO X B W Γ t e fa) : SV X B W Γ Γ1 o (.Assign [.Name x p] e pos) (sAsg (ftName i) fa) :=
  PS.imp (ps_asg he (pg_name hN hi hx hf) hs hw rfl) (own_read lx ht hΓ)
/-- name = [..], the name a local on the same line -/
theorem sv_setLc {i : Nat} {y : Str} {py spos : Pos} {elt tg it : Expr} {ifs : List Expr} {scope : Scope} {own : List (Str × Nat)} {vs : List Nat} {ft : FT} {fi : En → R (List D)} {gt : En → R Bool} {fe : En → R D} {t : OT}
    (lx : leO Γ o.x) (ht : oty Γ1 i = .own .fz) (hΓ : ∀ j, j ≠ i → oty Γ1 j = oty Γ j)
    (hc : X.calm = true) (hN : X.N.Nodup) (hy : X.N[i]? = some y) (hyl : X.env.scope.names.lookup y = some .local) (hsw : swapsWith (.ListComp elt [⟨tg, it, ifs, 0⟩] scope pos) (some (.Name y py)) spos.line X.env = pure true)
    (hv : own.map (·.2) = vs) (hst : notSet it = true) (hi : EI X B W Γ tg it fi) (ok : BlkOk X.N X.env.scope scope own)
    (hg : ∀ (s : Shared) (H : Hp) (C : Addr) (cl : List (Str × Addr)) (fp : List Addr), EG (X.blk s H scope (compEnvC scope cl C X.env) fp) B Γ vs tg ft)
    (htt : ∀ (s : Shared) (H : Hp) (C : Addr) (cl : List (Str × Addr)) (fp : List Addr), ETs (X.blk s H scope (compEnvC scope cl C X.env) fp) B W0 Γ ifs gt)
    (he : ∀ (s : Shared) (H : Hp) (C : Addr) (cl : List (Str × Addr)) (fp : List Addr), EV (X.blk s H scope (compEnvC scope cl C X.env) fp) B W0 Γ elt fe) :
    SV X B W Γ Γ1 o (.Assign [.Name y py] (.ListComp elt [⟨tg, it, ifs, 0⟩] scope pos) spos) (sAsg (ftName i) (eLc vs ft fi gt fe)) := by
  subst hv
  exact PS.imp (ps_setLc hc hN hy hyl hsw hi ok hg htt he (folded_ok hst X.env)) fun Dn σ H k => lc_read (own_read lx ht hΓ Dn σ H k)

/-! ### return, raise, expression -/
theorem rel_grow0 {K : Frag} {s : En} {G H : Hp} {σ : St} (r : Rel K B Γ s G σ H) : Grow B.G0 B.H0 G H := ⟨r.hG, r.hH, r.GH, r.fr⟩
def sRet (fa : En → R D) : En → Out := fun s => (fa s).go s .rt
theorem New.fz {K : Frag} {H G H' : Hp} {v : V} {d : D} (h : RD K G v d) : New K H G H' v d .fz := ⟨[], .fz h, List.nodup_nil, fun _ m => by cases m⟩
theorem sv_ret (lx : leO Γ o.x) (ht : o.t = .fz) (he : EV X B W Γ e fa) : SV X B W Γ Γn o (.Return (some e) pos) (sRet fa) :=
  PS.imp (ps_ret he) fun Dn σ H ⟨s, G, rl, k⟩ => ⟨s, G, rl, (Fin.go rl lx k).imp (fun d _ k v G1 H1 g1 r => k v G1 H1 (rel_grow0 (rl.grow g1)) (by rw [ht]; exact .fz r)) fun _ z => z⟩
theorem sv_reo (lx : leO Γ o.x) (he : EO X B W Γ o.t e fa) : SV X B W Γ Γn o (.Return (some e) pos) (sRet fa) :=
  PS.imp (ps_ret he) fun Dn σ H ⟨s, G, rl, k⟩ => ⟨s, G, rl, (Fin.go rl lx k).imp (fun d _ k v G1 H1 g1 n => k v G1 H1 (rel_grow0 (rl.grow g1)) (n.grow rl.hH)) fun _ z => z⟩
theorem sv_rev {i : Nat} {x : Str} {p : Pos} (hN : X.N[i]? = some x) (hv : Vis X.env.scope x) (h1 : (x == ("__debug__" : Str)) = false) (h2 : (x == ("__classdict__" : Str)) = false) (ho : oty Γ i = o.t) : SV X B W Γ Γn o (.Return (some (.Name x p)) pos) (sRet (eVar i)) :=
  PS.imp (ps_ret (pe_var hN hv h1 h2)) fun Dn σ H ⟨s, G, rl, k⟩ => by
    unfold sRet eVar at k
    cases q : s[i]? with
    | none => rw [q] at k; exact k.elim
    | some od =>
      cases od with
      | none => rw [q] at k; exact k.elim
      | some d =>
        rw [q] at k
        obtain ⟨v, e1, t⟩ := rl.out q
        obtain ⟨φ, fq, sl, hf, ow, nd, dj, ok⟩ := t.ow
        exact ⟨v, e1, k v G H (rel_grow0 rl) ⟨fq, by rw [← ho]; exact ow, nd, fun a m => ⟨(ok a m).2.2, (ok a m).1, (ok a m).2.1⟩⟩⟩
def sRetN : En → Out := fun _ => .rt .non
theorem sv_retN (ht : o.t = .fz) : SV X B W Γ Γn o (.Return none pos) sRetN := PS.imp ps_retN fun Dn σ H ⟨s, G, rl, k⟩ => k .non G H (rel_grow0 rl) (by rw [ht]; exact .fz .non)
def sRai (c : Str) : En → Out := fun s => .ex c s
theorem sv_rai {c : Str} {ms : Str} {j : Nat} {p p2 p3 : Pos} (lx : leO Γ o.x) (hc : X.calm = true) (tk : Takes X W) (q : PySem.W.excIn X.K (He.ga X.K c) He.veBase "ValueError.__new__" = true) (gC : X.mg c = some (.ref (He.ga X.K c))) (kC : PySem.W.keepIn X.K (.ref (He.ga X.K c)) = true)
    (r : Raises X (.ref (He.ga X.K c))) (hg : Gl X c) (hdb : (c == ("__debug__" : Str)) = false) : SV X B W Γ Γn o (.Raise (some (.Call (.Name c p) [.Constant (.str ms) j p2] [] p3)) none pos) (sRai c) :=
  PS.imp (ps_raise hc tk (pmk_own PySem.F.excBase_ValueError q gC kC r hg hdb)) fun Dn σ H ⟨s, G, rl, k⟩ => by
    obtain ⟨G2, g2, r2⟩ := rl.weaken lx
    exact k σ G2 H g2 r2
def sExp (fa : En → R D) : En → Out := fun s => (fa s).go s fun _ => .nx s
theorem sv_exp (lx : leO Γ o.x) (hs : swapsWith e none pos.line X.env = pure false) (he : EB X B W Γ e fa) : SV X B W Γ Γ o (.Expr e pos) (sExp fa) :=
  PS.imp (ps_expr he hs) fun Dn σ H ⟨s, G, rl, k⟩ => ⟨s, G, rl, (Fin.go rl lx k).imp (fun d _ k v G1 H1 g1 _ => k σ G1 H1 g1.g (rl.grow g1)) fun _ z => z⟩

/-! ### if, for, while -/
def sIte (gc : En → R Bool) (f g : En → Out) : En → Out := fun s => (gc s).go s fun b => if b then f s else g s
theorem sv_ite {ca cb : List Stmt} {gc : En → R Bool} (lx : leO Γ o.x) (hc : ET X B W Γ c gc) (ha : SVs X B W Γ Γn o ca f) (hb : SVs X B W Γ Γn o cb g) : SV X B W Γ Γn o (.If c ca cb pos) (sIte gc f g) :=
  PS.imp (ps_if hc ha hb) fun Dn σ H ⟨s, G, rl, k⟩ => ⟨s, G, rl, (Fin.go rl lx k).imp (fun b _ k G1 H1 g1 => by
    cases b with
    | true => rw [if_pos rfl] at k ⊢; exact ⟨s, G1, rl.grow g1, k.mono g1.g⟩
    | false => rw [if_neg Bool.false_ne_true] at k ⊢; exact ⟨s, G1, rl.grow g1, k.mono g1.g⟩) fun _ z => z⟩
/-- the turns of a for -/
def forD (ft : FT) (body : En → Out) : List D → En → Out
  | [], s => .nx s
  | d :: ds, s => match ft d s with
    | none => .stuck
    | some s1 => match body s1 with
      | .nx s' => forD ft body ds s'
      | .ct s' => forD ft body ds s'
      | .bk s' => .nx s'
      | .rt d => .rt d
      | .ex c s' => .ex c s'
      | .stuck => .stuck
def sFor (ft : FT) (fi : En → R (List D)) (body : En → Out) : En → Out := fun s => (fi s).go s fun ds => forD ft body ds s
theorem sv_for {tg it : Expr} {body : List Stmt} {vs : List Nat} {ft : FT} {fi : En → R (List D)} (lx : leO Γ o.x) (hp : PassesOwn (model X.prog X.w) X.A X.env X.xe) (hc : X.calm = true) (hst : notSet it = true)
    (hi : EIf X B W Γ tg it fi) (hg : EG X B Γ vs tg ft) (hb : SVs X B W Γ Γ { o with l := Γ } body f) : SV X B W Γ Γ o (.For tg it body [] pos) (sFor ft fi f) :=
  PS.imp (ps_for hp hc hi hg hb (folded_ok hst X.env)) fun Dn σ H ⟨s, G, rl, k⟩ => ⟨s, G, rl, (Fin.go rl lx k).imp (fun ds _ k J G1 H1 g1 it => by
    refine ⟨fun i m σ' H' => m = ds.length - i ∧ i ≤ ds.length ∧ ∃ s' G', Same G1 G' ∧ Rel X.K B Γ s' G' σ' H' ∧ Fin X.K B W Γ o G' Dn (forD ft f (ds.drop i) s'), ⟨ds.length, by simp, Nat.zero_le _, s, G1, .refl _, rl.grow g1, k.mono g1.g⟩, ?_⟩
    rintro i m σ' H' ⟨rfl, hi, s', G', e1, r', k⟩
    by_cases hlt : i < ds.length
    · obtain ⟨d, ed, dr⟩ := drop_at hlt
      rw [dr] at k
      refine .inr ⟨it.go i d G' H' ed e1 r'.GH (e1.trans r'.GH), fun σ2 H2 => ∃ s2 G2, Same G1 G2 ∧ Rel X.K B Γ s2 G2 σ2 H2 ∧ Fin X.K B W Γ o G2 Dn (forD ft f (ds.drop (i + 1)) s2), ?_, fun x H2 y => ?_⟩
      · rintro σ2 H2 ⟨s2, G2, q⟩
        exact ⟨ds.length - (i + 1), by omega, rfl, hlt, s2, G2, q⟩
      · obtain ⟨G2, g2, rd⟩ := it.yld i d G' H' x H2 ed e1 r'.GH (e1.trans r'.GH) y
        unfold forD at k
        cases q : ft d s' with
        | none => rw [q] at k; exact k.elim
        | some s1 =>
          rw [q] at k
          refine ⟨s', G2, d, s1, r'.grow g2, rd, q, fun σ2 r2 _ => ⟨s1, G2, r2, ?_⟩⟩
          have k := k.mono g2.g
          dsimp only at k
          cases q2 : f s1 with
          | nx s2 => rw [q2] at k; exact fun σ3 G3 H3 g3 r3 => ⟨s2, G3, e1.trans (g2.g.trans g3), r3, k.mono g3⟩
          | ct s2 => rw [q2] at k; exact fun σ3 G3 H3 g3 r3 => ⟨s2, G3, e1.trans (g2.g.trans g3), r3, k.mono g3⟩
          | bk s2 => rw [q2] at k; exact k
          | rt d2 => rw [q2] at k; exact k
          | ex c s2 => rw [q2] at k; exact k
          | stuck => rw [q2] at k; exact k
    · have e : i = ds.length := by omega
      subst e
      rw [List.drop_length] at k
      exact .inl ⟨it.stop G' H' e1 r'.GH (e1.trans r'.GH), k σ' G' H' (.refl _) r'⟩) fun _ z => z⟩
/-- the turns of a while, at most n -/
def whlD (gc : En → R Bool) (body : En → Out) : Nat → En → Out
  | 0, _ => .stuck
  | n + 1, s => (gc s).go s fun b => if b then (match body s with
      | .nx s' => whlD gc body n s'
      | .ct s' => whlD gc body n s'
      | .bk s' => .nx s'
      | .rt d => .rt d
      | .ex c s' => .ex c s'
      | .stuck => .stuck) else .nx s
theorem sv_whl {gc : En → R Bool} {body : List Stmt} (n : Nat) (lx : leO Γ o.x) (hp : PassesOwn (model X.prog X.w) X.A X.env X.xe) (hc : ET X B W Γ c gc) (hb : SVs X B W Γ Γ { o with l := Γ } body f) : SV X B W Γ Γ o (.While c body [] pos) (whlD gc f n) :=
  PS.imp (ps_while hp hc hb) fun Dn σ H ⟨s, G, rl, k⟩ => by
    refine ⟨fun m σ' H' => ∃ s' G', Rel X.K B Γ s' G' σ' H' ∧ Fin X.K B W Γ o G' Dn (whlD gc f m s'), ⟨n, s, G, rl, k⟩, ?_⟩
    rintro m σ' H' ⟨s', G', r', k⟩
    cases m with
    | zero => exact k.elim
    | succ m =>
      refine ⟨s', G', r', (Fin.go r' lx k).imp (fun b _ k G1 H1 g1 => ?_) fun _ z => z⟩
      cases b with
      | false =>
        rw [if_neg Bool.false_ne_true] at k ⊢
        exact k σ' G1 H1 g1.g (r'.grow g1)
      | true =>
        rw [if_pos rfl] at k ⊢
        refine ⟨fun σ2 H2 => ∃ s2 G2, Rel X.K B Γ s2 G2 σ2 H2 ∧ Fin X.K B W Γ o G2 Dn (whlD gc f m s2), fun σ2 H2 q => ⟨m, Nat.lt_succ_self _, q⟩, s', G1, r'.grow g1, ?_⟩
        have k := k.mono g1.g
        cases q2 : f s' with
        | nx s2 => rw [q2] at k; exact fun σ3 G3 H3 g3 r3 => ⟨s2, G3, r3, k.mono g3⟩
        | ct s2 => rw [q2] at k; exact fun σ3 G3 H3 g3 r3 => ⟨s2, G3, r3, k.mono g3⟩
        | bk s2 => rw [q2] at k; exact k
        | rt d2 => rw [q2] at k; exact k
        | ex c s2 => rw [q2] at k; exact k
        | stuck => rw [q2] at k; exact k
end
end Hr

end
section
/-! HrH: calls of defs, of built-ins; lists and dicts that are changed -/
namespace Hr
open PySem PySem.Spec L2

/-! ### defs -/
/-- what a def promises: φ tells its result by its arguments' data; n of them; t: how the result is owned -/
def spD (K : Frag) (n : Nat) (t : OT) (φ : List D → R D) : Sp := fun vs H Q E => ∃ ds G, Same G H ∧ RDs K G vs ds ∧ ds.length = n ∧
  Done (φ ds) (fun d => ∀ v G' H', Grow G H G' H' → New K H G' H' v d t → Q v H') (fun c => ∀ G' H', Grow G H G' H' → E (clsV K c) none H')
structure Fok (P : Program) (w : World) (K : Frag) (mg : Str → Option Value) (base : Heap) (x : Str) (n : Nat) (t : OT) (k : Nat) (φ : List D → R D) : Prop where
  glo : mg x = some (.ref (He.ga K x))
  kp : PySem.W.keepIn K (.ref (He.ga K x)) = true
  ok : ∃ fd ps, Binds K fd ps [] ∧ ps.length = n ∧ FnOk P w K mg base (L2.CX P w) k (He.ga K x) fd ps (spD K n t φ)
theorem Fok.mono {P : Program} {w : World} {K : Frag} {mg : Str → Option Value} {base : Heap} {x : Str} {n : Nat} {t : OT} {j k : Nat} {φ : List D → R D} (h : Fok P w K mg base x n t j φ) (l : j ≤ k) : Fok P w K mg base x n t k φ := by
  obtain ⟨fd, ps, b, e, F⟩ := h.ok
  exact ⟨h.glo, h.kp, fd, ps, b, e, F.mono l⟩

section
variable {X : Cx} {B : Base} {W : WX} {Γ Γ1 Γn : Ow} {o : OC} {e a b c : Expr} {f g : En → Out} {fa fb fc : En → R D} {pos : Pos} {st : Stmt} {sts : List Stmt} {es : List Expr} {fs : En → R (List D)}
def eCall (φ : List D → R D) (n : Nat) (fs : En → R (List D)) : En → R D := fun s => fs s >>= fun ds => if ds.length = n then φ ds else .stuck
theorem noStars_any {pos : Pos} {env : Env} : ∀ {es : List Expr}, es.all noStar = true → (backTo pos (starEach es env)).any (·.1) = false := by
  have key : ∀ {es : List Expr}, es.all noStar = true → (starEach es env).all (fun x => !x.1) = true := by
    intro es
    induction es with
    | nil => intro _; rfl
    | cons e es ih =>
      intro h
      obtain ⟨h1, h2⟩ := Bool.and_eq_true_iff.mp (show (noStar e && es.all noStar) = true from h)
      rw [noStar_ok h1]
      exact ih h2
  intro es h
  have h := key h
  generalize starEach es env = l at h
  have : ∀ l : List (Bool × Sem Value), l.all (fun x => !x.1) = true → (backTo pos l).any (·.1) = false := by
    intro l
    induction l with
    | nil => intro _; rfl
    | cons p l ih =>
      intro h
      obtain ⟨h1, h2⟩ := Bool.and_eq_true_iff.mp (show ((!p.1) && l.all (fun x => !x.1)) = true from h)
      obtain ⟨b, m⟩ := p
      have hb : b = false := by simpa using h1
      subst hb
      cases l with
      | nil => rfl
      | cons q l => exact ih h2
  exact this l h
theorem eo_call {x : Str} {n : Nat} {t : OT} {k : Nat} {φ : List D → R D} {p : Pos} (F : Fok X.prog X.w X.K X.mg X.base x n t k φ) (hr : Room k X.A) (hg : Gl X x) (tk : Takes X W) (hdb : (x == ("__debug__" : Str)) = false) (hs : (a :: es).all noStar = true) (ha : EVs X B W Γ (a :: es) fs) :
    EO X B W Γ t (.Call (.Name x p) (a :: es) [] pos) (eCall φ n fs) := by
  obtain ⟨fd, ps, hb, hl, F1⟩ := F.ok
  have h2 := (Bool.and_eq_true_iff.mp (show (noStar a && es.all noStar) = true from hs))
  refine PE.imp (pe_callS F1 hr hg F.glo F.kp hb (fun σ => passAt tk σ) ha hdb (noStar_ok h2.1 _ _) (noStars_any h2.2)) fun σ H Q ⟨s, G, rl, k⟩ => ⟨s, G, rl, k.bind.imp (fun ds _ k vs G1 H1 g1 rs => ?_) fun _ z => z⟩
  obtain ⟨hn, k⟩ := k.ite
  exact ⟨ds, G1, g1.gh, rs, hn, k.imp (fun d _ k v G2 H2 g2 n => k v G2 H2 (g1.trans g2) (n.grow g1.h)) fun c z => fun G2 H2 g2 => z G2 H2 (g1.trans g2)⟩

/-! ### built-ins -/
def eApp (g : List D → R D) (fs : En → R (List D)) : En → R D := fun s => fs s >>= g
def CallD (K : Frag) (r : List V → Hp → VK → Prop) (g : List D → R D) (t : OT) : Prop := ∀ (vs : List V) (ds : List D) (d : D) (G H : Hp) (Q : VK), Same G H → RBs K G H vs ds → g ds = .ok d →
  (∀ v G' H', Grow G H G' H' → New K H G' H' v d t → Q v H') → r vs H Q
theorem app_read {r : List V → Hp → VK → Prop} {g : List D → R D} {t : OT} (hr : CallD X.K r g t) (hx : ∀ ds c, g ds ≠ .exc c) : ∀ σ H Q, tOw X.K B W Γ t (eApp g fs) σ H Q → tCB r (tBs X.K B W Γ fs) σ H Q := fun σ H Q ⟨s, G, rl, k⟩ =>
  ⟨s, G, rl, k.bind.imp (fun ds _ k vs G1 H1 g1 rs => by
    obtain ⟨d, e, k⟩ := k.ok (hx _)
    exact hr vs ds d G1 H1 Q g1.gh rs e fun v G2 H2 g2 n => k v G2 H2 (g1.trans g2) (n.grow g1.h)) fun _ z => z⟩
theorem eo_app {x : Str} {id : String} {r : List V → Hp → VK → Prop} {g : List D → R D} {t : OT} {p : Pos} (hc : CallR X (.builtin id) r) (hr : CallD X.K r g t) (hx : ∀ ds c, g ds ≠ .exc c) (hg : Gl X x) (hm : X.mg x = none) (hv : bootBuiltins x = some (.builtin id))
    (hn : x ≠ "__name__") (hdb : (x == ("__debug__" : Str)) = false) (hs : (a :: es).all noStar = true) (ha : EBs X B W Γ (a :: es) fs) : EO X B W Γ t (.Call (.Name x p) (a :: es) [] pos) (eApp g fs) := by
  have h2 := (Bool.and_eq_true_iff.mp (show (noStar a && es.all noStar) = true from hs))
  exact PE.imp (pe_callB hc hg hm hv ha hn hdb (noStar_ok h2.1 _ _) (noStars_any h2.2)) (app_read hr hx)
theorem eo_ty {x : Str} {T : String} {r : List V → Hp → VK → Prop} {g : List D → R D} {t : OT} {p : Pos} (hc : CallR X (.type T) r) (hr : CallD X.K r g t) (hx : ∀ ds c, g ds ≠ .exc c) (hg : Gl X x) (hm : X.mg x = none) (hv : bootBuiltins x = some (.type T))
    (hn : x ≠ "__name__") (hdb : (x == ("__debug__" : Str)) = false) (hs : (a :: es).all noStar = true) (ha : EBs X B W Γ (a :: es) fs) : EO X B W Γ t (.Call (.Name x p) (a :: es) [] pos) (eApp g fs) := by
  have h2 := (Bool.and_eq_true_iff.mp (show (noStar a && es.all noStar) = true from hs))
  exact PE.imp (pe_callTy hc hg hm hv ha hn hdb (noStar_ok h2.1 _ _) (noStars_any h2.2)) (app_read hr hx)

/-- one argument -/
def on1 (g : D → R D) : List D → R D
  | [d] => g d
  | _ => .stuck
theorem on1_noexc {g : D → R D} (h : ∀ d c, g d ≠ .exc c) (ds : List D) (c : Str) : on1 g ds ≠ .exc c := by
  unfold on1
  split
  · exact h _ _
  · exact fun z => nomatch z
theorem calld1 {K : Frag} {r : List V → Hp → VK → Prop} {g : D → R D} {t : OT} (h : ∀ (x : V) (dx d : D) (G H : Hp) (Q : VK), Same G H → RB K G H x dx → g dx = .ok d → (∀ v G' H', Grow G H G' H' → New K H G' H' v d t → Q v H') → r [x] H Q) : CallD K r (on1 g) t := by
  intro vs ds d G H Q e rs hg k
  unfold on1 at hg
  split at hg
  · cases rs with
    | cons r1 rr =>
      cases rr
      exact h _ _ _ G H Q e r1 hg k
  · cases hg
theorem dLen_noexc (x : D) (c : Str) : dLen x ≠ .exc c := by unfold dLen; split <;> exact fun z => nomatch z
theorem cd_len {K : Frag} : CallD K (fun xs H Q => ∃ x n, xs = [x] ∧ LenV K x H n ∧ Q (.int n) H) (on1 dLen) .fz := calld1 fun x dx d G H Q e r hg k => by
  unfold dLen at hg
  split at hg
  · cases hg
    obtain ⟨a, vs, rfl, s, l, rs⟩ := r.tup.tup_inv
    exact ⟨_, _, rfl, .inr ⟨vs, (s.same e).sq, rs.length.symm⟩, k _ G H (.refl e) (.fz (.int _))⟩
  · cases hg
    obtain ⟨a, vs, rfl, s, l, rs⟩ := r.lst e
    exact ⟨_, _, rfl, .inl ⟨vs, .inl (.inl s), rs.length.symm⟩, k _ G H (.refl e) (.fz (.int _))⟩
  · cases hg
    obtain ⟨a, vs, rfl, s, l, rs⟩ := r.arr e
    exact ⟨_, _, rfl, .inl ⟨vs, s, rs.length.symm⟩, k _ G H (.refl e) (.fz (.int _))⟩
  · cases hg
    obtain ⟨rfl, _, l⟩ := r.str
    exact ⟨_, _, rfl, ⟨l, rfl⟩, k _ G H (.refl e) (.fz (.int _))⟩
  · cases hg
/-- tuple(xs), list(xs) -/
def dTuple : D → R D
  | .tup ds => .ok (.tup ds)
  | .lst ds => .ok (.tup ds)
  | .arr ds => .ok (.tup ds)
  | _ => .stuck
def dList : D → R D
  | .tup ds => .ok (.lst ds)
  | .lst ds => .ok (.lst ds)
  | .arr ds => .ok (.lst ds)
  | _ => .stuck
theorem dTuple_noexc (x : D) (c : Str) : dTuple x ≠ .exc c := by unfold dTuple; split <;> exact fun z => nomatch z
theorem dList_noexc (x : D) (c : Str) : dList x ≠ .exc c := by unfold dList; split <;> exact fun z => nomatch z
theorem call_tupleP {X : Cx} : CallR X (.type "tuple") (fun xs H Q => ∃ p ys, xs = [.ref p] ∧ ((SqL X.K H p ys ∧ ∀ l us, H l = none → Q (.ref l) (upd H l (pT us ys))) ∨ (SqT X.K H p ys ∧ Q (.ref p) H))) := by
  intro pins s σ H xs us Q I r h
  obtain ⟨p, ys, rfl, h⟩ := h
  obtain ⟨u, rfl, rx⟩ := vals1 r
  cases rx
  rcases h with ⟨hq, q⟩ | ⟨hq, q⟩
  · obtain ⟨its, r', pl, hz⟩ := I.list hq
    have hlen := r'.length
    refine call_tuple_list pl.isList (fun h' kp => ?_) (by simp only [List.size_toArray] <;> omega)
    have I1 : Inv X pins σ H { s with heap := h' } := I.kept (t' := s.toks) kp
    have I2 : Inv X pins σ (upd H h'.objs.size (pT its ys)) { s with heap := h'.push { cls := .type "tuple", data := .seq its.toArray } } :=
      I1.laid (t' := s.toks) (fun b o e => Heap.get?_push_of_some _ e) (Nat.le_refl _) (show ObjOk X.prog X.w _ _ _ (pT its ys) from pT_ok ⟨Heap.get?_push_size _ rfl, hz, its, r', PyProof.Rows.IsTup.new _ _⟩)
    exact ⟨.ref h'.objs.size, _, I2, rfl, q _ _ (I1.hok.fresh (Nat.le_refl _))⟩
  · obtain ⟨its, r', pl, hz⟩ := I.tuple hq
    exact call_tuple_same pl ⟨.ref p, H, I, rfl, q⟩
theorem cd_tuple {K : Frag} : CallD K (fun xs H Q => ∃ p ys, xs = [.ref p] ∧ ((SqL K H p ys ∧ ∀ l us, H l = none → Q (.ref l) (upd H l (pT us ys))) ∨ (SqT K H p ys ∧ Q (.ref p) H))) (on1 dTuple) .fz := calld1 fun x dx d G H Q e r hg k => by
  unfold dTuple at hg
  split at hg
  · cases hg
    have rt := r.tup
    obtain ⟨a, vs, rfl, s, l, rs⟩ := rt.tup_inv
    exact ⟨_, _, rfl, .inr ⟨(s.same e).sq, k _ G H (.refl e) (.fz rt)⟩⟩
  · cases hg
    obtain ⟨a, vs, rfl, s, l, rs⟩ := r.lst e
    refine ⟨_, _, rfl, .inl ⟨.inl (.inl s), fun p us hp => ?_⟩⟩
    obtain ⟨g, rd⟩ := new_tup (K := K) e hp l rs
    exact k _ _ _ g (.fz rd)
  · cases hg
    obtain ⟨a, vs, rfl, s, l, rs⟩ := r.arr e
    refine ⟨_, _, rfl, .inl ⟨s, fun p us hp => ?_⟩⟩
    obtain ⟨g, rd⟩ := new_tup (K := K) e hp l rs
    exact k _ _ _ g (.fz rd)
  · cases hg
theorem cd_list {K : Frag} : CallD K (fun xs H Q => ∃ p ys, xs = [.ref p] ∧ (SqL K H p ys ∨ SqT K H p ys) ∧ ∀ l, H l = none → Q (.ref l) (upd H l (.lst ys))) (on1 dList) (.own .fz) := calld1 fun x dx d G H Q e r hg k => by
  unfold dList at hg
  split at hg
  · cases hg
    obtain ⟨a, vs, rfl, s, l, rs⟩ := r.tup.tup_inv
    refine ⟨_, _, rfl, .inr (s.same e).sq, fun p hp => ?_⟩
    obtain ⟨g, n⟩ := new_own (K := K) e hp l rs
    exact k _ _ _ g n
  · cases hg
    obtain ⟨a, vs, rfl, s, l, rs⟩ := r.lst e
    refine ⟨_, _, rfl, .inl (.inl (.inl s)), fun p hp => ?_⟩
    obtain ⟨g, n⟩ := new_own (K := K) e hp l rs
    exact k _ _ _ g n
  · cases hg
    obtain ⟨a, vs, rfl, s, l, rs⟩ := r.arr e
    refine ⟨_, _, rfl, .inl s, fun p hp => ?_⟩
    obtain ⟨g, n⟩ := new_own (K := K) e hp l rs
    exact k _ _ _ g n
  · cases hg
/-- a list of truths, of intsD -/
def boolsD : List D → Option (List Bool)
  | [] => some []
  | .bl b :: ds => (boolsD ds).map fun bs => b :: bs
  | _ :: _ => none
def intsD : List D → Option (List Int)
  | [] => some []
  | .int i :: ds => (intsD ds).map fun is => i :: is
  | _ :: _ => none
theorem boolsD_vals {K : Frag} {G : Hp} : ∀ {vs : List V} {ds : List D} {bs : List Bool}, RDs K G vs ds → boolsD ds = some bs → vs = bs.map V.bl
  | _, _, _, .nil, h => by cases h; rfl
  | _, _, _, .cons (d := .bl b) (ds := ds) a r, h => by
    have h : (boolsD ds).map (fun bs => b :: bs) = some _ := h
    cases q : boolsD ds with
    | none => rw [q] at h; cases h
    | some bs => rw [q] at h; cases h; rw [a.bl_inv, boolsD_vals r q]; rfl
  | _, _, _, .cons (d := .non) _ _, h => by cases h
  | _, _, _, .cons (d := .int _) _ _, h => by cases h
  | _, _, _, .cons (d := .str _) _ _, h => by cases h
  | _, _, _, .cons (d := .tup _) _ _, h => by cases h
  | _, _, _, .cons (d := .lst _) _ _, h => by cases h
  | _, _, _, .cons (d := .dic _ _ _) _ _, h => by cases h
  | _, _, _, .cons (d := .arr _) _ _, h => by cases h
  | _, _, _, .cons (d := .kt _) _ _, h => by cases h
  | _, _, _, .cons (d := .exc _) _ _, h => by cases h
theorem intsD_vals {K : Frag} {G : Hp} : ∀ {vs : List V} {ds : List D} {bs : List Int}, RDs K G vs ds → intsD ds = some bs → vs = bs.map V.int
  | _, _, _, .nil, h => by cases h; rfl
  | _, _, _, .cons (d := .int b) (ds := ds) a r, h => by
    have h : (intsD ds).map (fun bs => b :: bs) = some _ := h
    cases q : intsD ds with
    | none => rw [q] at h; cases h
    | some bs => rw [q] at h; cases h; rw [a.int_inv, intsD_vals r q]; rfl
  | _, _, _, .cons (d := .non) _ _, h => by cases h
  | _, _, _, .cons (d := .bl _) _ _, h => by cases h
  | _, _, _, .cons (d := .str _) _ _, h => by cases h
  | _, _, _, .cons (d := .tup _) _ _, h => by cases h
  | _, _, _, .cons (d := .lst _) _ _, h => by cases h
  | _, _, _, .cons (d := .dic _ _ _) _ _, h => by cases h
  | _, _, _, .cons (d := .arr _) _ _, h => by cases h
  | _, _, _, .cons (d := .kt _) _ _, h => by cases h
  | _, _, _, .cons (d := .exc _) _ _, h => by cases h
def dAll : D → R D
  | .lst ds => R.of ((boolsD ds).map fun bs => .bl (bs.all id))
  | _ => .stuck
def dAny : D → R D
  | .lst ds => R.of ((boolsD ds).map fun bs => .bl (bs.any id))
  | _ => .stuck
def maxI : List Int → Int → Int
  | [], m => m
  | i :: is, m => maxI is (if m < i then i else m)
def dMax : D → R D
  | .lst ds => R.of ((intsD ds).bind fun is => match is with | [] => none | i :: is => some (.int (maxI is i)))
  | _ => .stuck
def dSum : D → R D
  | .lst ds => R.of ((intsD ds).map fun is => .int is.sum)
  | _ => .stuck
theorem dAll_noexc (x : D) (c : Str) : dAll x ≠ .exc c := by unfold dAll; split <;> first | exact of_noexc _ _ | exact fun z => nomatch z
theorem dAny_noexc (x : D) (c : Str) : dAny x ≠ .exc c := by unfold dAny; split <;> first | exact of_noexc _ _ | exact fun z => nomatch z
theorem dMax_noexc (x : D) (c : Str) : dMax x ≠ .exc c := by unfold dMax; split <;> first | exact of_noexc _ _ | exact fun z => nomatch z
theorem dSum_noexc (x : D) (c : Str) : dSum x ≠ .exc c := by unfold dSum; split <;> first | exact of_noexc _ _ | exact fun z => nomatch z
theorem cd_all {K : Frag} : CallD K (rAll K) (on1 dAll) .fz := calld1 fun x dx d G H Q e r hg k => by
  unfold dAll at hg
  split at hg
  · rename_i ds
    cases q : boolsD ds with
    | none => rw [q] at hg; cases hg
    | some bs =>
      rw [q] at hg; cases hg
      obtain ⟨a, vs, rfl, s, l, rs⟩ := r.lst e
      rw [boolsD_vals rs q] at s
      exact ⟨a, bs, rfl, .inl (.inl s), k _ G H (.refl e) (.fz (.bl _))⟩
  · cases hg
theorem cd_any {K : Frag} : CallD K (rAny K) (on1 dAny) .fz := calld1 fun x dx d G H Q e r hg k => by
  unfold dAny at hg
  split at hg
  · rename_i ds
    cases q : boolsD ds with
    | none => rw [q] at hg; cases hg
    | some bs =>
      rw [q] at hg; cases hg
      obtain ⟨a, vs, rfl, s, l, rs⟩ := r.lst e
      rw [boolsD_vals rs q] at s
      exact ⟨a, bs, rfl, .inl (.inl s), k _ G H (.refl e) (.fz (.bl _))⟩
  · cases hg
theorem maxI_ok : ∀ (is : List Int) (m : Int), maxI is m ∈ m :: is ∧ ∀ y ∈ m :: is, y ≤ maxI is m
  | [], m => ⟨by simp [maxI], by simp [maxI]⟩
  | i :: is, m => by
    obtain ⟨h1, h2⟩ := maxI_ok is (if m < i then i else m)
    unfold maxI
    refine ⟨?_, fun y hy => ?_⟩
    · rcases List.mem_cons.mp h1 with q | q
      · rw [q]
        split <;> simp
      · simp [q]
    · have h3 := h2 _ (List.mem_cons_self ..)
      rcases List.mem_cons.mp hy with q | q
      · subst q
        split at h3 <;> (split <;> omega)
      · rcases List.mem_cons.mp q with q | q
        · subst q
          split at h3 <;> (split <;> omega)
        · exact h2 y (List.mem_cons_of_mem _ q)
theorem cd_max {K : Frag} : CallD K (rMax K) (on1 dMax) .fz := calld1 fun x dx d G H Q e r hg k => by
  unfold dMax at hg
  split at hg
  · rename_i ds
    cases q : intsD ds with
    | none => rw [q] at hg; cases hg
    | some is =>
      rw [q] at hg
      cases is with
      | nil => cases hg
      | cons i is =>
        cases hg
        obtain ⟨a, vs, rfl, s, l, rs⟩ := r.lst e
        rw [intsD_vals rs q] at s
        refine ⟨a, i :: is, rfl, .inl (.inl s), Nat.succ_pos _, fun m hm hle => ?_⟩
        obtain ⟨h1, h2⟩ := maxI_ok is i
        have : m = maxI is i := Int.le_antisymm (h2 m hm) (hle _ h1)
        rw [this]
        exact k _ G H (.refl e) (.fz (.int _))
  · cases hg
theorem cd_sum {K : Frag} : CallD K (rSum K) (on1 dSum) .fz := calld1 fun x dx d G H Q e r hg k => by
  unfold dSum at hg
  split at hg
  · rename_i ds
    cases q : intsD ds with
    | none => rw [q] at hg; cases hg
    | some bs =>
      rw [q] at hg; cases hg
      obtain ⟨a, vs, rfl, s, l, rs⟩ := r.lst e
      rw [intsD_vals rs q] at s
      exact ⟨a, bs, rfl, .inl (.inl s), k _ G H (.refl e) (.fz (.int _))⟩
  · cases hg
def dInt : D → R D
  | .int i => .ok (.int i)
  | .bl b => .ok (.int (if b then 1 else 0))
  | _ => .stuck
theorem dInt_noexc (x : D) (c : Str) : dInt x ≠ .exc c := by unfold dInt; split <;> exact fun z => nomatch z
theorem cd_int {K : Frag} : CallD K (fun xs H Q => (∃ i, xs = [.int i] ∧ Q (.int i) H) ∨ ∃ k, xs = [.bl k] ∧ Q (.int (if k then 1 else 0)) H) (on1 dInt) .fz := calld1 fun x dx d G H Q e r hg k => by
  unfold dInt at hg
  split at hg
  · cases hg; cases r.int; exact .inl ⟨_, rfl, k _ G H (.refl e) (.fz (.int _))⟩
  · cases hg; cases r.bl; exact .inr ⟨_, rfl, k _ G H (.refl e) (.fz (.int _))⟩
  · cases hg

/-! ### isinstance -/
/-- is the data of the built-in class? -/
def isTy (T : String) : D → R Bool
  | .non => .ok false
  | .bl _ => .ok (T == "bool" || T == "int")
  | .int _ => .ok (T == "int")
  | .str _ => .ok (T == "str")
  | .tup _ => .ok (T == "tuple")
  | .lst _ => .ok (T == "list")
  | .dic _ _ _ => .ok (T == "dict")
  | _ => .stuck
def eIsi (T : String) (fa : En → R D) : En → R D := fun s => fa s >>= fun d => isTy T d >>= fun b => .ok (.bl b)
theorem isTy_noexc (T : String) (x : D) (c : Str) : isTy T x ≠ .exc c := by unfold isTy; split <;> exact fun z => nomatch z
/-- the model's answers for the classes asked -/
def tyAns (T : String) : Prop := ∀ K : Frag, PySem.W.kitOne K (.type "NoneType") (.type T) = some false ∧ PySem.W.kitOne K (.type "bool") (.type T) = some (T == "bool" || T == "int") ∧ PySem.W.kitOne K (.type "int") (.type T) = some (T == "int") ∧
  PySem.W.kitOne K (.type "str") (.type T) = some (T == "str") ∧ PySem.W.kitOne K (.type "tuple") (.type T) = some (T == "tuple") ∧ PySem.W.kitOne K (.type "list") (.type T) = some (T == "list") ∧ PySem.W.kitOne K (.type "dict") (.type T) = some (T == "dict")
theorem isi_of {K : Frag} {G H : Hp} {x : V} {d : D} {T : String} {b : Bool} (tt : tyAns T) (e : Same G H) (r : RB K G H x d) (h : isTy T d = .ok b) : ∃ t, TyX K H x t ∧ PySem.W.kitOne K t (.type T) = some b := by
  obtain ⟨h1, h2, h3, h4, h5, h6, h7⟩ := tt K
  unfold isTy at h
  split at h
  · cases h; cases r.non; exact ⟨_, .base .non, h1⟩
  · cases h; cases r.bl; exact ⟨_, .base (.bl _), h2⟩
  · cases h; cases r.int; exact ⟨_, .base (.int _), h3⟩
  · cases h; obtain ⟨rfl, _⟩ := r.str; exact ⟨_, .base (.str _), h4⟩
  · cases h; obtain ⟨a, vs, rfl, s, l, rs⟩ := r.tup.tup_inv; obtain ⟨us, s⟩ := s; cases q : keyVs vs with | true => (rw [pT_key q] at s; exact ⟨_, .base (.tup (e _ _ s)), h5⟩) | false => (rw [pT_not q] at s; exact ⟨_, .fTuple (e _ _ s), h5⟩)
  · cases h; obtain ⟨a, vs, rfl, s, l, rs⟩ := r.lst e; exact ⟨_, .base (.lst s), h6⟩
  · cases h
    rcases r.dic e with ⟨_, a, kvs, rfl, hH, _⟩ | ⟨_, a, kvs, rfl, hH, _⟩
    · exact ⟨_, .base (.dK hH), h7⟩
    · exact ⟨_, .base (.dT hH), h7⟩
  · cases h
theorem ev_isi {T : String} {p : Pos} (tt : tyAns T) (hg : Gl X "isinstance") (hm : X.mg "isinstance" = none) (hs : noStar a = true) (hT : PE X b (tC (.ty T))) (hs2 : noStar b = true) (ha : EB X B W Γ a fa) :
    EV X B W Γ (.Call (.Name "isinstance" p) [a, b] [] pos) (eIsi T fa) := by
  have pa : PA X [a, b] (tCons (tBo X.K B W Γ fa) (tCons (tC (.ty T)) tNil)) := pa_cons ha (pa_cons hT pa_nil (noStar_ok hs2 _ _)) (noStar_ok hs _ _)
  refine PE.imp (pe_callB call_isi hg hm (by decide +kernel) pa (by decide) (by decide) (noStar_ok hs _ _) (noStars_any (by simp [hs2]))) fun σ H Q ⟨s, G, rl, k⟩ => ⟨s, G, rl, k.bind.imp (fun d _ k x G1 H1 g1 r => ?_) fun _ z => z⟩
  obtain ⟨bb, e, k⟩ := k.bind.ok (isTy_noexc _ _)
  obtain ⟨t, ty, kk⟩ := isi_of tt g1.gh r e
  exact ⟨x, .ty T, t, .type T, bb, rfl, .ty T, ty, kk, k _ G1 H1 g1 (.bl _)⟩
end
end Hr

end
section
/-! HrI: lists and dicts that are changed; methods -/
namespace Hr
open PySem PySem.Spec L2
theorem and2 {a b : Bool} (h : (a && b) = true) : a = true ∧ b = true := Bool.and_eq_true_iff.mp h
/-- one owned cell is written -/
theorem Rel.cell {K : Frag} {B : Base} {Γ : Ow} {s : En} {G : Hp} {σ : St} {H : Hp} {i : Nat} {a : Addr} {v : V} {d' : D} {u : HO} {φ : Nat → List Addr} (r : Rel K B Γ s G σ H) (sl : SL K G H σ s Γ φ) (hf : ∀ i a, a ∈ φ i → B.H0 a = none) (ha : a ∈ φ i)
    (ev : σ[i]? = some (some v)) (new : OW K G (upd H a u) v d' (oty Γ i) (φ i)) (hu : ∀ vs, u ≠ .tup vs := by intro _ z; cases z) : Rel K B Γ (s.set i (some d')) G σ (upd H a u) := by
  have ga : G a = none := (sl.ok i a ha).2
  have h0 : B.H0 a = none := hf i a ha
  refine ⟨by rw [List.length_set]; exact r.len, ⟨φ, ⟨fun j d e => ?_, sl.nd, sl.dj, fun j b m => ⟨?_, (sl.ok j b m).2⟩⟩, hf⟩, fun b o q => ?_, r.hG, fun b o q => ?_, r.fr⟩
  · rcases getElem?_set_cases e with ⟨rfl, e'⟩ | ⟨ne, e'⟩
    · cases e'
      exact ⟨v, ev, new⟩
    · obtain ⟨v', q, o⟩ := sl.at_ j d e'
      exact ⟨v', q, o.mono (.refl _) fun b m o' z => by rw [upd_ne fun w => ne (sl.dj j i b m (by rw [w]; exact ha))]; exact z⟩
  · by_cases q : b = a
    · subst q; exact ⟨_, upd_same, hu⟩
    · obtain ⟨o, h1, h2⟩ := (sl.ok j b m).1; exact ⟨o, by rw [upd_ne q]; exact h1, h2⟩
  · rw [upd_ne (ne_of_none q h0)]; exact r.hH b o q
  · rw [upd_ne (ne_of_none q ga)]; exact r.GH b o q
/-- the list of an owned slot -/
theorem Rel.olist {K : Frag} {B : Base} {Γ : Ow} {s : En} {G : Hp} {σ : St} {H : Hp} {i : Nat} {ds : List D} (r : Rel K B Γ s G σ H) (e : s[i]? = some (some (.lst ds))) (ht : oty Γ i = .own .fz) :
    ∃ a vs, σ[i]? = some (some (.ref a)) ∧ H a = some (.lst vs) ∧ vs.length ≤ sizeLine ∧ RDs K G vs ds ∧ ∀ vs' ds', vs'.length ≤ sizeLine → RDs K G vs' ds' → Rel K B Γ (s.set i (some (.lst ds'))) G σ (upd H a (.lst vs')) := by
  obtain ⟨φ, sl, hf⟩ := r.sl
  obtain ⟨v, ev, ow⟩ := sl.at_ i _ e
  rw [ht] at ow
  generalize hφ : φ i = fp at ow
  cases ow with
  | @ol a vs _ _ fq h l rs =>
    obtain ⟨rs', e0⟩ := rs.unfz
    subst e0
    refine ⟨a, vs, ev, h, l, rs', fun vs' ds' l' r' => r.cell sl hf (by rw [hφ]; exact List.mem_cons_self ..) ev ?_⟩
    rw [ht, hφ]
    exact .ol upd_same l' (OWs.fzs r')
/-- the dict of an owned slot -/
theorem Rel.odict {K : Frag} {B : Base} {Γ : Ow} {s : En} {G : Hp} {σ : St} {H : Hp} {i : Nat} {ks : List (List Key)} {ds : List D} (r : Rel K B Γ s G σ H) (e : s[i]? = some (some (.dic false ks ds))) (ht : oty Γ i = .own .fz) :
    ∃ a kvs, σ[i]? = some (some (.ref a)) ∧ H a = some (.dK kvs) ∧ kvs.length ≤ sizeLine ∧ ks = (kvs.map fun p => [p.1]) ∧ RDs K G (kvs.map (·.2)) ds ∧ ∀ kvs' ds', kvs'.length ≤ sizeLine → RDs K G (kvs'.map (·.2)) ds' → Rel K B Γ (s.set i (some (.dic false (kvs'.map fun p => [p.1]) ds'))) G σ (upd H a (.dK kvs')) := by
  obtain ⟨φ, sl, hf⟩ := r.sl
  obtain ⟨v, ev, ow⟩ := sl.at_ i _ e
  rw [ht] at ow
  generalize hφ : φ i = fp at ow
  cases ow with
  | @odK a kvs _ _ fq h l rs =>
    obtain ⟨rs', e0⟩ := rs.unfz
    subst e0
    refine ⟨a, kvs, ev, h, l, rfl, rs', fun kvs' ds' l' r' => r.cell sl hf (by rw [hφ]; exact List.mem_cons_self ..) ev ?_⟩
    rw [ht, hφ]
    exact .odK upd_same l' (OWs.fzs r')
theorem Rel.odictT {K : Frag} {B : Base} {Γ : Ow} {s : En} {G : Hp} {σ : St} {H : Hp} {i : Nat} {ks : List (List Key)} {ds : List D} (r : Rel K B Γ s G σ H) (e : s[i]? = some (some (.dic true ks ds))) (ht : oty Γ i = .own .fz) :
    ∃ a kvs, σ[i]? = some (some (.ref a)) ∧ H a = some (.dT kvs) ∧ kvs.length ≤ sizeLine ∧ ks = (kvs.map fun p => p.1) ∧ RDs K G (kvs.map (·.2)) ds ∧ ∀ kvs' ds', kvs'.length ≤ sizeLine → RDs K G (kvs'.map (·.2)) ds' → Rel K B Γ (s.set i (some (.dic true (kvs'.map fun p => p.1) ds'))) G σ (upd H a (.dT kvs')) := by
  obtain ⟨φ, sl, hf⟩ := r.sl
  obtain ⟨v, ev, ow⟩ := sl.at_ i _ e
  rw [ht] at ow
  generalize hφ : φ i = fp at ow
  cases ow with
  | @odT a kvs _ _ fq h l rs =>
    obtain ⟨rs', e0⟩ := rs.unfz
    subst e0
    refine ⟨a, kvs, ev, h, l, rfl, rs', fun kvs' ds' l' r' => r.cell sl hf (by rw [hφ]; exact List.mem_cons_self ..) ev ?_⟩
    rw [ht, hφ]
    exact .odT upd_same l' (OWs.fzs r')

section
variable {X : Cx} {B : Base} {W : WX} {Γ Γ1 Γn : Ow} {o : OC} {e a b c : Expr} {f g : En → Out} {fa fb fc fe : En → R D} {pos : Pos} {st : Stmt} {sts : List Stmt} {es : List Expr} {fs : En → R (List D)}
/-- the list at slot i -/
def lstAt (s : En) (i : Nat) : Option (List D) := match (s[i]?).bind id with
  | some (.lst ds) => some ds
  | _ => none
theorem lstAt_ok {s : En} {i : Nat} {ds : List D} (h : lstAt s i = some ds) : s[i]? = some (some (.lst ds)) := by
  unfold lstAt at h
  cases q : s[i]? with
  | none => rw [q] at h; cases h
  | some od =>
    rw [q] at h
    cases od with
    | none => cases h
    | some d =>
      cases d with
      | lst xs => cases h; rfl
      | _ => cases h
def optO {α : Type} (x : Option α) (k : α → Out) : Out := match x with
  | some a => k a
  | none => .stuck
/-- x.append(e) -/
def sApp (i : Nat) (fe : En → R D) : En → Out := fun s => optO (lstAt s i) fun ds => (fe s).go s fun d => if ds.length < sizeLine then .nx (s.set i (some (.lst (ds ++ [d])))) else .stuck
def notCall : Expr → Bool
  | .Call _ _ _ _ => false
  | _ => true
theorem base_ok (h : notCall a = true) (name : Str) (env : Env) (whole : Sem Value) : attributeBase a name env whole = whole := by
  cases a <;> first | rfl | cases h
/-- no call without arguments -/
def notSuper : Expr → Bool
  | .Call (.Name _ _) [] [] _ => false
  | _ => true
theorem base_ok2 (h : notSuper a = true) (name : Str) (env : Env) (whole : Sem Value) : attributeBase a name env whole = whole := by
  unfold attributeBase
  split
  · cases h
  · rfl
theorem few_ok {cpos : Pos} {env : Env} (h : (a :: es).all noStar = true) (hl : (a :: es).length < 30) : ((backTo cpos (starEach (a :: es) env)).all (fun x => !x.1) && (backToKw cpos (keywordEach [] env)).all (fun x => x.1.isSome)
      && decide ((a :: es).length + ([] : List Keyword).length + (if ([] : List Keyword).isEmpty then 0 else 1) < 30)) = true := by
  have h1 := noStars_any (pos := cpos) (env := env) h
  have h2 : (backTo cpos (starEach (a :: es) env)).all (fun x => !x.1) = true := by
    rw [List.all_eq_true]
    intro x hx
    have := List.any_eq_false.mp h1 x hx
    simpa using this
  rw [h2]
  simp only [Bool.true_and, Bool.and_eq_true, decide_eq_true_eq]
  exact ⟨rfl, by simpa using hl⟩
theorem vis_var {i : Nat} {x : Str} (hN : X.N[i]? = some x) (hv : Vis X.env.scope x) (h1 : (x == ("__debug__" : Str)) = false) (h2 : (x == ("__classdict__" : Str)) = false) : PE X (.Name x pos) (tVar i) := pe_var hN hv h1 h2
theorem sv_app {i : Nat} {x : Str} {p apos cpos : Pos} (lx : leO Γ o.x) (ho : oty Γ i = .own .fz) (hN : X.N[i]? = some x) (hv : Vis X.env.scope x) (h1 : (x == ("__debug__" : Str)) = false) (h2 : (x == ("__classdict__" : Str)) = false) (hl : (apos.endLine == cpos.line) = true) (hs : noStar e = true)
    (he : EV X B W Γ e fe) : SV X B W Γ Γ o (.Expr (.Call (.Attribute (.Name x p) "append" apos) [e] [] cpos) pos) (sApp i fe) := by
  have pa : PA X [e] (tCons (tV X.K B W Γ fe) tNil) := pa_cons he pa_nil (noStar_ok hs _ _)
  refine PS.imp (ps_expr (pe_bm PySem.F.plainAttrs_list PySem.F.slot_list_append PySem.F.type_list_append mt_append (pe_var hN hv h1 h2) pa (base_ok rfl _ _ _) (few_ok (by simp [hs]) (by simp)) hl (noStar_ok hs _ _) rfl) rfl) fun Dn σ H ⟨s, G, rl, k⟩ => ?_
  unfold sApp at k
  cases q : lstAt s i with
  | none => rw [q] at k; exact k.elim
  | some ds =>
    rw [q] at k
    obtain ⟨a, vs, ev, hH, l, rs, up⟩ := rl.olist (lstAt_ok q) ho
    refine ⟨_, ev, .inl ⟨rfl, vs, .inl (.inl hH)⟩, s, G, rl, (Fin.go rl lx k).imp (fun d _ k v G1 H1 g1 r => ?_) fun _ z => z⟩
    by_cases hlt : ds.length < sizeLine
    · rw [if_pos hlt] at k
      obtain ⟨a', vs', ev', hH', l', rs', up'⟩ := (rl.grow g1).olist (lstAt_ok q) ho
      have ea : a' = a := by rw [ev] at ev'; cases ev'; rfl
      subst ea
      refine ⟨a', vs', v, rfl, rfl, hH', by rw [rs'.length]; exact hlt, ?_⟩
      exact k σ G1 _ g1.g (up' (vs' ++ [v]) (ds ++ [d]) (by rw [List.length_append, rs'.length]; exact hlt) (rs'.append (.cons r .nil)))
    · rw [if_neg hlt] at k; exact k.elim
/-- x.extend(e), e a list -/
def sExt (i : Nat) (fe : En → R D) : En → Out := fun s => optO (lstAt s i) fun ds => (fe s).go s fun d => match d with
  | .lst es => if ds.length + es.length ≤ sizeLine then .nx (s.set i (some (.lst (ds ++ es)))) else .stuck
  | _ => .stuck
theorem sv_ext {i : Nat} {x : Str} {p apos cpos : Pos} (lx : leO Γ o.x) (ho : oty Γ i = .own .fz) (hN : X.N[i]? = some x) (hv : Vis X.env.scope x) (h1 : (x == ("__debug__" : Str)) = false) (h2 : (x == ("__classdict__" : Str)) = false) (hl : (apos.endLine == cpos.line) = true) (hs : noStar e = true)
    (he : EB X B W Γ e fe) : SV X B W Γ Γ o (.Expr (.Call (.Attribute (.Name x p) "extend" apos) [e] [] cpos) pos) (sExt i fe) := by
  have pa : PA X [e] (tCons (tBo X.K B W Γ fe) tNil) := pa_cons he pa_nil (noStar_ok hs _ _)
  refine PS.imp (ps_expr (pe_bm PySem.F.plainAttrs_list PySem.F.slot_list_extend PySem.F.type_list_extend mt_extend (pe_var hN hv h1 h2) pa (base_ok rfl _ _ _) (few_ok (by simp [hs]) (by simp)) hl (noStar_ok hs _ _) rfl) rfl) fun Dn σ H ⟨s, G, rl, k⟩ => ?_
  unfold sExt at k
  cases q : lstAt s i with
  | none => rw [q] at k; exact k.elim
  | some ds =>
    rw [q] at k
    obtain ⟨a, vs, ev, hH, l, rs, up⟩ := rl.olist (lstAt_ok q) ho
    refine ⟨_, ev, .inl ⟨rfl, vs, .inl (.inl hH)⟩, s, G, rl, (Fin.go rl lx k).imp (fun d _ k v G1 H1 g1 r => ?_) fun _ z => z⟩
    cases d with
    | lst es =>
      dsimp only at k
      by_cases hlt : ds.length + es.length ≤ sizeLine
      · rw [if_pos hlt] at k
        obtain ⟨a', vs', ev', hH', l', rs', up'⟩ := (rl.grow g1).olist (lstAt_ok q) ho
        have ea : a' = a := by rw [ev] at ev'; cases ev'; rfl
        subst ea
        obtain ⟨b, ws, rfl, sb, lb, rb⟩ := r.lst g1.gh
        refine ⟨a', b, vs', ws, rfl, rfl, hH', sb, by rw [rs'.length, rb.length]; exact hlt, ?_⟩
        exact k σ G1 _ g1.g (up' (vs' ++ ws) (ds ++ es) (by rw [List.length_append, rs'.length, rb.length]; exact hlt) (rs'.append rb))
      · rw [if_neg hlt] at k; exact k.elim
    | _ => exact k.elim
/-- d[k] = e, e frozen -/
def setAll (k : List Key) (d : D) : List (List Key) → List D → List D
  | q :: ks, x :: ds => (if q = k then d else x) :: setAll k d ks ds
  | _, ds => ds
def putD (ks : List (List Key)) (ds : List D) (k : List Key) (d : D) : List (List Key) × List D := if (ks.any fun q => decide (q = k)) = true then (ks, setAll k d ks ds) else (ks ++ [k], ds ++ [d])
theorem putK_D {K : Frag} {G : Hp} {κ : Type} [DecidableEq κ] (j : κ → List Key) (inj : ∀ x y, j x = j y → x = y) {k : κ} {v : V} {d : D} (rv : RD K G v d) {kvs : List (κ × V)} {ds : List D} (r : RDs K G (kvs.map (·.2)) ds) :
    (putD (kvs.map fun p => j p.1) ds (j k) d).1 = ((putK kvs k v).map fun p => j p.1) ∧ RDs K G ((putK kvs k v).map (·.2)) (putD (kvs.map fun p => j p.1) ds (j k) d).2 ∧ (putK kvs k v).length ≤ kvs.length + 1 := by
  unfold putD putK
  by_cases h : (kvs.any fun kv => decide (kv.1 = k)) = true
  · have hm : ((kvs.map fun p => j p.1).any fun q => decide (q = j k)) = true := by
      obtain ⟨p, hp, e⟩ := List.any_eq_true.mp h
      exact List.any_eq_true.mpr ⟨j p.1, List.mem_map.mpr ⟨p, hp, rfl⟩, decide_eq_true (by rw [of_decide_eq_true e])⟩
    rw [if_pos h, if_pos hm]
    refine ⟨?_, ?_, by rw [List.length_map]; exact Nat.le_succ _⟩
    · rw [List.map_map]
      apply List.map_congr_left
      intro x _
      dsimp only [Function.comp]
      split <;> rfl
    · clear hm h
      induction kvs generalizing ds with
      | nil => cases r; exact .nil
      | cons p kvs ih =>
        cases r with
        | cons a b =>
          by_cases q : p.1 = k
          · show RDs K G ((if p.1 = k then (p.1, v) else p).2 :: _) ((if j p.1 = j k then d else _) :: _)
            rw [if_pos q, if_pos (by rw [q])]
            exact .cons rv (ih b)
          · show RDs K G ((if p.1 = k then (p.1, v) else p).2 :: _) ((if j p.1 = j k then d else _) :: _)
            rw [if_neg q, if_neg fun z => q (inj _ _ z)]
            exact .cons a (ih b)
  · have hm : ¬ ((kvs.map fun p => j p.1).any fun q => decide (q = j k)) = true := by
      intro m
      obtain ⟨z, hz, e⟩ := List.any_eq_true.mp m
      obtain ⟨p, hp, rfl⟩ := List.mem_map.mp hz
      exact h (List.any_eq_true.mpr ⟨p, hp, decide_eq_true (inj _ _ (of_decide_eq_true e))⟩)
    rw [if_neg h, if_neg hm]
    refine ⟨by rw [List.map_append]; rfl, ?_, by rw [List.length_append]; exact Nat.le_refl _⟩
    rw [List.map_append]
    exact r.append (.cons rv .nil)
def dicAt (s : En) (i : Nat) : Option (Bool × List (List Key) × List D) := match (s[i]?).bind id with
  | some (.dic t ks ds) => some (t, ks, ds)
  | _ => none
theorem dicAt_ok {s : En} {i : Nat} {t : Bool} {ks : List (List Key)} {ds : List D} (h : dicAt s i = some (t, ks, ds)) : s[i]? = some (some (.dic t ks ds)) := by
  unfold dicAt at h
  cases q : s[i]? with
  | none => rw [q] at h; cases h
  | some od =>
    rw [q] at h
    cases od with
    | none => cases h
    | some d =>
      cases d with
      | dic _ _ _ => cases h; rfl
      | _ => cases h
/-- x[k] = e: first e, then the key -/
def sPut (i : Nat) (fk fe : En → R D) : En → Out := fun s => (fe s).go s fun d => optO (dicAt s i) fun q => (fk s).go s fun dk => optO (keyOf q.1 dk) fun k => if q.2.2.length < sizeLine then .nx (s.set i (some (.dic q.1 (putD q.2.1 q.2.2 k d).1 (putD q.2.1 q.2.2 k d).2))) else .stuck
theorem sv_put {i : Nat} {x : Str} {p pos' : Pos} {ke : Expr} {fk : En → R D} (hu : X.A.units + 1 < cLine) (lx : leO Γ o.x) (ho : oty Γ i = .own .fz) (hN : X.N[i]? = some x) (hv : Vis X.env.scope x) (h1 : (x == ("__debug__" : Str)) = false) (h2 : (x == ("__classdict__" : Str)) = false)
    (hs : swapsWith e (some (.Subscript (.Name x p) ke pos')) pos.line X.env = pure false) (hk : EV X B W Γ ke fk) (he : EV X B W Γ e fe) : SV X B W Γ Γ o (.Assign [.Subscript (.Name x p) ke pos'] e pos) (sPut i fk fe) := by
  refine PS.imp (ps_dput hu (pe_var hN hv h1 h2) hk he hs) fun Dn σ H ⟨s, G, rl, k⟩ => ⟨s, G, rl, (Fin.go rl lx k).imp (fun d _ k v G1 H1 g1 rv => ?_) fun _ z => z⟩
  cases q : dicAt s i with
  | none => rw [q] at k; exact k.elim
  | some tkd =>
    obtain ⟨t, ks, ds⟩ := tkd
    rw [q] at k
    have rl1 := rl.grow g1
    obtain ⟨v0, ev0, _, _⟩ := rl1.now (dicAt_ok q)
    have k : Fin X.K B W Γ o G1 Dn ((fk s).go s fun dk => optO (keyOf t dk) fun k => if ds.length < sizeLine then .nx (s.set i (some (.dic t (putD ks ds k d).1 (putD ks ds k d).2))) else .stuck) := k.mono g1.g
    refine ⟨v0, ev0, s, G1, rl1, (Fin.go rl1 lx k).imp (fun dk _ k y G2 H2 g2 ry => ?_) fun _ z => z⟩
    have rv := rv.mono g2.g
    have rl2 := rl1.grow g2
    have k := k.mono g2.g
    cases hk : keyOf t dk with
    | none => rw [hk] at k; exact k.elim
    | some kk =>
      rw [hk] at k
      dsimp only [optO] at k
      by_cases hlt : ds.length < sizeLine
      · rw [if_pos hlt] at k
        cases t with
        | false =>
          obtain ⟨a, kvs, ev, hH, l, rfl, rs, up⟩ := rl2.odict (dicAt_ok q) ho
          have : v0 = .ref a := by rw [ev0] at ev; cases ev; rfl
          subst this
          obtain ⟨kq, rfl, rfl⟩ := keyOf_K ry hk
          obtain ⟨e1, e2, e3⟩ := putK_D (fun z => [z]) (fun x y z => by injection z) (k := kq) rv rs
          have hll : kvs.length < sizeLine := by
            have := rs.length
            rw [List.length_map] at this
            omega
          refine ⟨a, _, rfl, .k hH hll, ?_⟩
          have := up (putK kvs kq v) _ (by omega) e2
          rw [← e1] at this
          exact k σ G2 _ (.refl _) this
        | true =>
          obtain ⟨a, kvs, ev, hH, l, rfl, rs, up⟩ := rl2.odictT (dicAt_ok q) ho
          have : v0 = .ref a := by rw [ev0] at ev; cases ev; rfl
          subst this
          obtain ⟨b, rfl, hb⟩ := keyOf_T ry hk
          obtain ⟨e1, e2, e3⟩ := putK_D (fun z => z) (fun x y z => z) (k := kk) rv rs
          have hll : kvs.length < sizeLine := by
            have := rs.length
            rw [List.length_map] at this
            omega
          refine ⟨a, _, rfl, .t hH (rl2.GH _ _ hb) hll, ?_⟩
          have := up (putK kvs kk v) _ (by omega) e2
          rw [← e1] at this
          exact k σ G2 _ (.refl _) this
      · rw [if_neg hlt] at k; exact k.elim
/-- {} -/
theorem eo_dnew (t : Bool) : EO X B W Γ (.own .fz) (.Dict [] [] pos) (eCon (.dic t [] [])) := by
  cases t with
  | false =>
    refine PE.imp pe_dnewK fun σ H Q ⟨s, G, rl, k⟩ => ?_
    intro d hd
    refine k (.ref d) G _ ⟨.refl _, Same.upd hd, rl.GH.trans (Same.upd hd), fun _ h _ => h⟩ ⟨[d], .odK (kvs := []) upd_same (Nat.zero_le _) .nil, by simp, fun a m => ?_⟩
    have : a = d := by simpa using m
    subst this
    exact ⟨hd, ⟨_, upd_same, fun _ z => nomatch z⟩, rl.GH.free hd⟩
  | true =>
    refine PE.imp pe_dnewT fun σ H Q ⟨s, G, rl, k⟩ => ?_
    intro d hd
    refine k (.ref d) G _ ⟨.refl _, Same.upd hd, rl.GH.trans (Same.upd hd), fun _ h _ => h⟩ ⟨[d], .odT (kvs := []) upd_same (Nat.zero_le _) .nil, by simp, fun a m => ?_⟩
    have : a = d := by simpa using m
    subst this
    exact ⟨hd, ⟨_, upd_same, fun _ z => nomatch z⟩, rl.GH.free hd⟩

/-! ### methods that only read -/
/-- xs.index(y): the first place -/
def idxD (y : D) : List D → Nat → Option Nat
  | [], _ => none
  | d :: ds, j => if D.eqv d y then some j else idxD y ds (j + 1)
def dIndex (ds : List D) (y : D) : R D := if y.pl && D.pls ds && decide (y.dep ≤ 60) && decide (PyData.depthAll (D.pys ds) ≤ 60) then R.of ((idxD y ds 0).map fun j => .int (j : Nat)) else .stuck
theorem dIndex_noexc (x : List D) (y : D) (c : Str) : dIndex x y ≠ .exc c := by
  unfold dIndex
  split <;> first | exact of_noexc _ _ | exact fun z => nomatch z
def asL : D → R (List D)
  | .lst ds => .ok ds
  | _ => .stuck
theorem asL_noexc (x : D) (c : Str) : asL x ≠ .exc c := by unfold asL; split <;> exact fun z => nomatch z
theorem asL_ok {x : D} {ds : List D} (h : asL x = .ok ds) : x = .lst ds := by
  unfold asL at h
  split at h
  · cases h; rfl
  · cases h
theorem idxD_ok {y : D} : ∀ {ds : List D} {j m : Nat}, idxD y ds j = some m → ∃ z, j ≤ m ∧ ds[m - j]? = some z ∧ D.eqv z y = true ∧ ∀ (q : Nat) (z' : D), q < m - j → ds[q]? = some z' → D.eqv z' y = false
  | [], _, _, h => by cases h
  | d :: ds, j, m, h => by
    unfold idxD at h
    split at h
    · rename_i e
      cases h
      exact ⟨d, Nat.le_refl _, by rw [Nat.sub_self]; rfl, e, fun q z' hq _ => by omega⟩
    · rename_i e
      obtain ⟨z, h1, h2, h3, h4⟩ := idxD_ok h
      have hmj : m - j = (m - (j + 1)) + 1 := by omega
      refine ⟨z, by omega, by rw [hmj]; exact h2, h3, fun q z' hq hz => ?_⟩
      cases q with
      | zero => cases hz; exact by simpa using e
      | succ q => exact h4 q z' (by omega) hz
theorem pys_get {ds : List D} {i : Nat} : (D.pys ds)[i]? = (ds[i]?).map D.py := by rw [pys_map, List.getElem?_map]
theorem shaped_of {d : D} {K : Frag} {G : Hp} {v : V} (r : RD K G v d) (h : d.dep ≤ 64) : SeqAt.shaped d.py = true := by
  unfold SeqAt.shaped
  rw [r.lay]
  exact decide_eq_true h
def eIndex (fa fb : En → R D) : En → R D := fun s => fa s >>= fun x => asL x >>= fun ds => fb s >>= fun y => dIndex ds y
theorem index_of {K : Frag} {G H : Hp} {x y : V} {ds : List D} {dy d : D} {Q : VK} (e : Same G H) (rx : RB K G H x (.lst ds)) (ry : RB K G H y dy) (h : dIndex ds dy = .ok d) (k : ∀ j : Nat, d = .int j → Q (.int j) H) : rIndexD K x [y] H Q := by
  unfold dIndex at h
  split at h
  · rename_i hc
    simp only [Bool.and_eq_true, decide_eq_true_eq] at hc
    obtain ⟨⟨⟨c1, c2⟩, c3⟩, c4⟩ := hc
    cases hi : idxD dy ds 0 with
    | none => rw [hi] at h; cases h
    | some j =>
      rw [hi] at h
      cases h
      obtain ⟨z, h1, h2, h3, h4⟩ := idxD_ok hi
      rw [Nat.sub_zero] at h2 h4
      obtain ⟨a, vs, rfl, s, l, rs⟩ := rx.lst e
      have rx' := rx.now e
      have ry' := ry.now e
      refine ⟨a, y, dy.py, D.pys ds, j, z.py, rfl, rfl, rx'.dp c2, ry'.dp c1, ?_, shaped_of ry' (by omega), by rw [pys_get, h2]; rfl, h3, fun m z' hm hz => ?_, k j rfl⟩
      · refine shaped_of (d := .lst ds) rx' ?_
        show PyData.depthAll (D.pys ds) + 1 ≤ 64
        omega
      · rw [pys_get] at hz
        cases hq : ds[m]? with
        | none => rw [hq] at hz; cases hz
        | some d' =>
          rw [hq] at hz
          cases hz
          exact h4 m d' hm hq
  · cases h
theorem ev_index {apos cpos : Pos} (hu : X.A.units + 65 < cLine) (hn : notSuper a = true) (hl : (apos.endLine == cpos.line) = true) (hs : noStar b = true) (ha : EB X B W Γ a fa) (hb : EB X B W Γ b fb) : EV X B W Γ (.Call (.Attribute a "index" apos) [b] [] cpos) (eIndex fa fb) := by
  have pa : PA X [b] (tCons (tBo X.K B W Γ fb) tNil) := pa_cons hb pa_nil (noStar_ok hs _ _)
  refine PE.imp (pe_bm PySem.F.plainAttrs_list PySem.F.slot_list_index PySem.F.type_list_index (mt_indexD hu) ha pa (base_ok2 hn _ _ _) (few_ok (by simp [hs]) (by simp)) hl (noStar_ok hs _ _) rfl) fun σ H Q ⟨s, G, rl, k⟩ => ⟨s, G, rl, k.bind.imp (fun dx _ k x G1 H1 g1 rx => ?_) fun _ z => z⟩
  obtain ⟨ds, e, k2⟩ := k.bind.ok (asL_noexc _)
  clear k
  cases asL_ok e
  obtain ⟨a', vs, rfl, s1, l, rs⟩ := rx.lst g1.gh
  refine ⟨.inl ⟨rfl, vs, .inl (.inl s1)⟩, s, G1, rl.grow g1, k2.bind.imp (fun dy _ k y G2 H2 g2 ry => ?_) fun _ z => XW.grow g1 z⟩
  obtain ⟨d, e2, k⟩ := k.ok (dIndex_noexc _ _)
  refine index_of g2.gh (rx.grow g2) ry e2 fun j ej => ?_
  subst ej
  exact k _ G2 H2 (g1.trans g2) (.int _)
end
end Hr

end
section
/-! HrJ: enumerate and zip over lists and tuples in any mix -/
namespace Hr
open PySem PySem.Spec PyProof.Rows L2
/-- a list or a tuple -/
def SqX (K : Frag) (H : Hp) (k : Bool) (a : Addr) (xs : List V) : Prop := if k = true then SqL K H a xs else SqT K H a xs
def IsX (k : Bool) (h : Heap) (a : Addr) (its : Array Value) : Prop := if k = true then h.IsList a its else h.IsTuple a its
def IterX (k : Bool) (h : Heap) (it a : Addr) (i : Nat) : Prop := if k = true then h.IsListIter it a i else h.IsTupleIter it a i
def iterO (k : Bool) (a : Addr) : Obj := if k = true then { cls := .type "list_iterator", data := .fields #[.ref a, .int 0 0] } else { cls := .type "tuple_iterator", data := .fields #[.ref a, .int 0 0] }
theorem iterX_at {k : Bool} {h h' : Heap} {it a : Addr} {i : Nat} (x : IterX k h it a i) (e : ∀ o, h.get? it = some o → h'.get? it = some o) : IterX k h' it a i := by
  cases k with
  | true => exact Heap.IsListIter.at x e
  | false => exact Heap.IsTupleIter.at x e
theorem iterX_new {k : Bool} {h : Heap} {it a : Addr} (e : h.get? it = some (iterO k a)) : IterX k h it a 0 := by
  cases k with
  | true => exact ⟨_, e, rfl, rfl⟩
  | false => exact ⟨_, e, rfl, rfl⟩
theorem iterX_obj {k : Bool} {h : Heap} {it a : Addr} {i : Nat} (x : IterX k h it a i) : ∃ o, h.get? it = some o ∧ ∀ v, o.data ≠ .cell v := by
  cases k with
  | true => obtain ⟨o, e, _, d⟩ := (show h.IsListIter it a i from x); exact ⟨o, e, fun v q => by rw [d] at q; cases q⟩
  | false => obtain ⟨o, e, _, d⟩ := (show h.IsTupleIter it a i from x); exact ⟨o, e, fun v q => by rw [d] at q; cases q⟩
theorem drawsX {prog : Program} {w : World} {A : Around} (hh : A.handled = none) (k : Bool) (it a : Addr) (hne : a ≠ it) (items : Array Value) :
    Draws prog w A it [it, a] items.size (fun i v => items[i]? = some v) (fun i h => IterX k h it a i ∧ IsX k h a items) := by
  cases k with
  | true => exact Draws.list hh it a hne items
  | false => exact Draws.tuple hh it a hne items
theorem beginsX (k : Bool) (a : Addr) (items : Array Value) : Begins (.ref a) (iterO k a) (fun h => IsX k h a items) := by
  cases k with
  | true => exact begins_list a items
  | false => exact begins_tuple a items
section
variable {X : Cx} {pins : List (Addr × Obj)} {σ : L2.St} {H : Hp} {s : Shared} {a : Addr} {xs ys : List V} {k : Bool}
theorem inv_seqX (I : L2.Inv X pins σ H s) (h : SqX X.K H k a xs) : ∃ its : List Value, Vals xs its ∧ IsX k s.heap a its.toArray ∧ a < s.heap.objs.size := by
  cases k with
  | true =>
    obtain ⟨its, r, p, _⟩ := I.list h
    exact ⟨its, r, p.isList, p.lt⟩
  | false =>
    obtain ⟨its, r, p, _⟩ := I.tuple h
    obtain ⟨o, ho, _⟩ := id p
    exact ⟨its, r, p, Heap.lt_size ho⟩
theorem inv_seqX_inj (I : L2.Inv X pins σ H s) (h : SqX X.K H k a xs) (h' : SqX X.K H k a ys) : xs = ys := by
  cases k with
  | true => exact I.list_inj h h'
  | false => exact I.tuple_inj h h'
end
/-! ### enumerate -/
def IteX (K : Frag) (k : Bool) (a : Addr) : It :=
  ⟨fun i H => ∃ (xs : List V) (x : V), SqX K H k a xs ∧ xs[i]? = some x, fun i H v H' => ∃ T us x, v = .ref T ∧ H T = none ∧ H' = upd H T (pT us [.int (i : Nat), x]) ∧ ∀ xs, SqX K H k a xs → xs[i]? = some x, fun i H => ∃ xs : List V, SqX K H k a xs ∧ xs.length = i⟩
theorem turn_enumX {P : Program} {w : World} {K : Frag} {elts : List Expr} {kk : Nat} {tpos : Pos} (k : Bool) (a e it : Addr) (hae : a ≠ e) (hai : a ≠ it) :
    Turn P w K (.Tuple elts kk tpos) (IteX K k a) [e, it] e (fun i h => (∃ old, IsEnum h e it ((i : Nat) : Int) old) ∧ IterX k h it a i ∧ e ≠ it) where
  mem := by simp
  obj := fun i h st b hb => by
    obtain ⟨⟨old, he⟩, hi, _⟩ := st
    have e' : b = e ∨ b = it := by simpa using hb
    rcases e' with z | z
    · rw [z]; exact ⟨_, he, fun v q => nomatch q⟩
    · rw [z]; exact iterX_obj hi
  keep := fun i h h' st q => let ⟨⟨old, he⟩, hi, hne⟩ := st; ⟨⟨old, q e (by simp) _ he⟩, iterX_at hi fun o z => q it (by simp) o z, hne⟩
  item := by
    intro X hP hw hK hc i pins s σ H E I hf st hg
    subst hP hw hK
    obtain ⟨⟨old, he⟩, hit, hne⟩ := st
    obtain ⟨xs, x, hq, hx⟩ := hg
    obtain ⟨its, rv, p, hz⟩ := inv_seqX I hq
    obtain ⟨u, hu, ru⟩ := rv.get hx
    have hel : e < s.heap.objs.size := Heap.lt_size he
    have hil : it < s.heap.objs.size := by obtain ⟨_, q, _⟩ := iterX_obj hit; exact Heap.lt_size q
    have hlt : i < its.toArray.size := by
      have := (List.getElem?_eq_some_iff.mp hu).1
      simpa using this
    refine wpAny_pyNext_enum_itemC (drawsX (by exact I.ok.hd hc) k it a hai its.toArray) he ⟨hit, p⟩ hlt hne (by simp [hne, hae.symm]) fun u' h' tk hu' ho st' hT hsz hk => ?_
    have eu : u' = u := by
      have hu2 : its[i]? = some u' := by simpa using hu'
      rw [hu] at hu2
      exact (Option.some.inj hu2).symm
    subst eu
    refine ⟨_, rfl, wpAny_letOwnedTupleGo_enum (s := { s with heap := h', toks := tk + 1 }) ho fun h'' he' sb => ?_⟩
    have hT2 : h''.get? s.heap.objs.size = some { cls := .type "tuple", data := .seq #[.int i tk, u'] } := (sb.2 _ (Nat.ne_of_gt hel)).trans hT
    have new : ObjOk X.prog X.w (upd H s.heap.objs.size (pT [.int i tk, u'] [.int (i : Nat), x])) h'' s.heap.objs.size (pT [.int i tk, u'] [.int (i : Nat), x]) :=
      pT_ok ⟨hT2, by show 2 ≤ sizeLine; decide, [.int i tk, u'], .cons ⟨_, rfl⟩ (.cons ru .nil), ⟨_, hT2, rfl, _, rfl⟩⟩
    have I1 : L2.Inv X pins σ (upd H s.heap.objs.size (pT [.int i tk, u'] [.int (i : Nat), x])) { s with heap := h'', toks := tk + 1 } :=
      I.turnedNew (ch := [e, it]) (fun b ob hb q => (sb.2 b (fun z => hb (by simp [z]))).trans (hk b ob (fun z => hb (by simp [z])) (fun z => hb (by simp [z])) q)) hf (Nat.le_refl _) new
    refine ⟨.ref s.heap.objs.size, _, I1, rfl, ⟨_, _, x, rfl, I.hok.fresh (Nat.le_refl _), rfl, fun ys hy => by rw [inv_seqX_inj I hy hq]; exact hx⟩, ⟨⟨u', ?_⟩, iterX_at st'.1 fun o q => (sb.2 it (Ne.symm hne)).trans q, hne⟩, fun b hb => ?_⟩
    · have e1 : ((i + 1 : Nat) : Int) = (i : Int) + 1 := by omega
      rw [e1]; exact he'
    · have hb' : b < s.heap.objs.size := by
        have e' : b = e ∨ b = it := by simpa using hb
        rcases e' with z | z
        · rw [z]; exact hel
        · rw [z]; exact hil
      rw [upd_ne (Nat.ne_of_lt hb')]
      exact (hf b hb).1
  done := by
    intro X hP hw hK hc i pins s σ H E I hf st hg
    subst hP hw hK
    obtain ⟨⟨old, he⟩, hit, hne⟩ := st
    obtain ⟨xs, hq, hx⟩ := hg
    obtain ⟨its, rv, p, hz⟩ := inv_seqX I hq
    obtain ⟨f0, f1, f2, f3, f4, f5⟩ := hf it (by simp)
    have hl := rv.length
    have hi : i = its.toArray.size := by rw [List.size_toArray]; omega
    subst hi
    exact wpAny_pyNext_enum_endD (drawsX (by exact I.ok.hd hc) k it a hai its.toArray) he ⟨hit, p⟩ fun h' eb => ⟨rfl, I.turned (t' := s.toks) (fun b o hb q => eb b o hb q) f0 f1 f3 f4 f5⟩
  self := fun A i s Q E st h => let ⟨⟨_, he⟩, _⟩ := st; wpAny_pyIter_enum he h
set_option maxHeartbeats 1000000 in
theorem meets_enumerate_new1 {v : Value} {o : Obj} {H : Heap → Prop} (B : Begins v o H) :
    Meets (Builtin.«enumerate.__new__» ⟨[.type "enumerate", v], []⟩) (fun _ R s => H s.heap ∧
      R (.ok (.ret (.ref (s.heap.push o).objs.size))) { s with heap := (s.heap.push o).push { cls := .type "enumerate", data := .fields #[.none, .bool false, .ref s.heap.objs.size, rawInt 0, .none, .none] } }) :=
  .of_wp fun prog w A R s h => by
    obtain ⟨hp, g, d, tk, os⟩ := s; obtain ⟨h1, h⟩ := h
    have hsub := sub_enumerate
    have q1 : ∀ {A' : Around} {E : Value → Shared → Prop} {Q : Value → Shared → Prop}, Q (.ref hp.objs.size) ⟨hp.push o, g, d, tk, os⟩ → wpAny (model prog w) A' (pyIter v) Q E ⟨hp, g, d, tk, os⟩ :=
      fun q => B.iter prog w _ _ ⟨hp, g, d, tk, os⟩ _ h1 q
    wp_walk using q1
    refine wpAny_stack_any fun st => wpAny_pure ?_
    split
    · rename_i c _ _ _ _ _
      cases (c == Value.type "enumerate")
      · wp_walk using q1
        exact ⟨_, rfl, h⟩
      · wp_walk using q1
        exact ⟨_, rfl, h⟩
    · wp_walk using q1
      exact ⟨_, rfl, h⟩
theorem enum_begins1 {prog : Program} {w : World} {A : Around} {E : Value → Shared → Prop} {s : Shared} {v : Value} {o : Obj} {H : Heap → Prop} {Q : Value → Shared → Prop} (B : Begins v o H) (h1 : H s.heap)
    (h : ∀ h', IsEnum h' (s.heap.objs.size + 1) s.heap.objs.size 0 .none → h'.get? s.heap.objs.size = some o → h'.objs.size = s.heap.objs.size + 2 →
      (∀ b o, s.heap.get? b = some o → h'.get? b = some o) → Q (.ref (s.heap.objs.size + 1)) { s with heap := h' }) :
    wpAny (model prog w) A (call (.type "enumerate") [v]) Q E s := by
  refine callType_new F.called_enumerate (by decide) (F.typeCall_enumerate_1 _) (F.newCall_enumerate_1 _) (fun obj => F.args_object_init_2 obj _) F.entry_enumerate_new
    (meets_enumerate_new1 B) ⟨h1, ?_⟩
  have hz : (s.heap.push o).objs.size = s.heap.objs.size + 1 := Heap.size_push ..
  show _ ∧ _
  rw [hz]
  have he : IsEnum ((s.heap.push o).push { cls := .type "enumerate", data := .fields #[.none, .bool false, .ref s.heap.objs.size, rawInt 0, .none, .none] }) (s.heap.objs.size + 1) s.heap.objs.size 0 .none := by
    have := Heap.get?_push_size (s.heap.push o) (o := { cls := .type "enumerate", data := .fields #[.none, .bool false, .ref s.heap.objs.size, rawInt 0, .none, .none] }) rfl
    rw [hz] at this; exact this
  refine ⟨⟨_, he, rfl⟩, h _ he (Heap.get?_push_of_some _ (Heap.get?_push_size _ B.free)) (by rw [Heap.size_push, hz]) fun b o x => Heap.get?_push_of_some _ (Heap.get?_push_of_some _ x)⟩
def iEnumX (K : Frag) (ta : TA) : TI := fun σ H R => ta σ H fun vs H1 => ∃ k a xs, vs = [.ref a] ∧ SqX K H1 k a xs ∧ R (IteX K k a) H1
theorem pi_enumX {X : Cx} {e : Expr} {ta : TA} {p pos tpos : Pos} {elts : List Expr} {kk : Nat} (hg : Gl X "enumerate") (hm : X.mg "enumerate" = none) (ha : PA X [e] ta) (hs : starEach [e] X.env = [(false, eval e X.env)]) :
    PI X (.Tuple elts kk tpos) (.Call (.Name "enumerate" p) [e] [] pos) (iEnumX X.K ta) := by
  refine ⟨fun pins s σ H R I h => ?_⟩
  refine Call_ (ld_blt I hg hm boot_enumerate (PyProof.Rows.callWith_type1 (thn (ha.run pos pins s σ H _ I h) fun us s1 ⟨vs, H1, I1, r1, q1⟩ => ?_) hs rfl))
  obtain ⟨k, a, xs, ex, hq, q⟩ := q1
  subst ex
  cases r1 with
  | cons r rr =>
    cases rr
    cases r
    obtain ⟨its, rv, p', hz⟩ := inv_seqX I1 hq
    refine enum_begins1 (beginsX k a its.toArray) p' fun h' he hit hsz hk => wpAny_pyIter_enum he ?_
    have I2 : L2.Inv X pins σ H1 { s1 with heap := h' } := I1.kept (t' := s1.toks) hk
    refine ⟨s1.heap.objs.size + 1, [s1.heap.objs.size + 1, s1.heap.objs.size], _, _, H1, rfl, I2, turn_enumX k a (s1.heap.objs.size + 1) s1.heap.objs.size (Nat.ne_of_lt (Nat.lt_succ_of_lt hz)) (Nat.ne_of_lt hz), ⟨⟨.none, he⟩, iterX_new hit, Nat.succ_ne_self _⟩, fun b hb => ?_, q⟩
    have e' : b = s1.heap.objs.size + 1 ∨ b = s1.heap.objs.size := by simpa using hb
    have hle : s1.heap.objs.size ≤ b := by
      rcases e' with z | z
      · rw [z]; exact Nat.le_add_right _ _
      · rw [z]; exact Nat.le_refl _
    exact I1.fpOk hle (I1.hok.fresh hle)
/-! ### zip -/
def ItzX (K : Frag) (k1 k2 : Bool) (a b : Addr) : It :=
  ⟨fun i H => ∃ (xs ys : List V) (x y : V), SqX K H k1 a xs ∧ SqX K H k2 b ys ∧ xs[i]? = some x ∧ ys[i]? = some y,
    fun i H v H' => ∃ T us x y, v = .ref T ∧ H T = none ∧ H' = upd H T (pT us [x, y]) ∧ (∀ xs, SqX K H k1 a xs → xs[i]? = some x) ∧ ∀ ys, SqX K H k2 b ys → ys[i]? = some y,
    fun i H => ∃ xs ys : List V, SqX K H k1 a xs ∧ SqX K H k2 b ys ∧ i ≤ xs.length ∧ i ≤ ys.length ∧ (i = xs.length ∨ i = ys.length)⟩
theorem turn_zipX {P : Program} {w : World} {K : Frag} {elts : List Expr} {kk : Nat} {tpos : Pos} (k1 k2 : Bool) {a b z TI TO i1 i2 : Addr} (Z : ZipSep2 z TI TO i1 i2 [i1, a] [i2, b]) (na : a ≠ i1) (nb : b ≠ i2) :
    Turn P w K (.Tuple elts kk tpos) (ItzX K k1 k2 a b) [z, TI, TO, i1, i2] z (fun i h => IsZip h z TI TO .none ∧ IsTupOf2 h TI (.ref i1) (.ref i2) ∧ (∃ x y, IsTupOf2 h TO x y) ∧ IterX k1 h i1 a i ∧ IterX k2 h i2 b i) where
  mem := by simp
  obj := fun i h st c hc => by
    obtain ⟨hz, hTI, ⟨x, y, hTO⟩, h1, h2⟩ := st
    have e' : c = z ∨ c = TI ∨ c = TO ∨ c = i1 ∨ c = i2 := by simpa using hc
    rcases e' with q | q | q | q | q
    · rw [q]; exact ⟨_, hz, fun v q => nomatch q⟩
    · rw [q]; exact ⟨_, hTI, fun v q => nomatch q⟩
    · rw [q]; exact ⟨_, hTO, fun v q => nomatch q⟩
    · rw [q]; exact iterX_obj h1
    · rw [q]; exact iterX_obj h2
  keep := fun i h h' st k => by
    obtain ⟨hz, hTI, ⟨x, y, hTO⟩, h1, h2⟩ := st
    exact ⟨k z (by simp) _ hz, k TI (by simp) _ hTI, ⟨x, y, k TO (by simp) _ hTO⟩, iterX_at h1 fun o q => k i1 (by simp) o q, iterX_at h2 fun o q => k i2 (by simp) o q⟩
  item := by
    intro X hP hw hK hc i pins s σ H E I hf st hg
    subst hP hw hK
    obtain ⟨hz, hTI, ⟨x0, y0, hTO⟩, h1, h2⟩ := st
    obtain ⟨xs, ys, x, y, hqx, hqy, hx, hy⟩ := hg
    obtain ⟨its, rv, p, _⟩ := inv_seqX I hqx
    obtain ⟨its2, rv2, p2, _⟩ := inv_seqX I hqy
    obtain ⟨u, hu, ru⟩ := rv.get hx
    obtain ⟨u2, hu2, ru2⟩ := rv2.get hy
    have hzl : z < s.heap.objs.size := Heap.lt_size hz
    have n1 : i < its.toArray.size := by simpa using (List.getElem?_eq_some_iff.mp hu).1
    have n2 : i < its2.toArray.size := by simpa using (List.getElem?_eq_some_iff.mp hu2).1
    refine wpAny_pyNext_zipD2_item Z (drawsX (by exact I.ok.hd hc) k1 i1 a na its.toArray) (drawsX (by exact I.ok.hd hc) k2 i2 b nb its2.toArray) hz hTI hTO ⟨h1, p⟩ ⟨h2, p2⟩ n1 n2 fun x1 x2 h' tk e1 e2 z' TO' st1 st2 hT hsz hk => ?_
    have eu : x1 = u := by
      have q : its[i]? = some x1 := by simpa using e1
      rw [hu] at q
      exact (Option.some.inj q).symm
    have eu2 : x2 = u2 := by
      have q : its2[i]? = some x2 := by simpa using e2
      rw [hu2] at q
      exact (Option.some.inj q).symm
    subst eu eu2
    refine ⟨_, rfl, wpAny_letOwnedTupleGo_zip (s := { s with heap := h', toks := tk }) z' fun h'' z'' sb => ?_⟩
    have hT2 : h''.get? s.heap.objs.size = some { cls := .type "tuple", data := .seq #[x1, x2] } := (sb.2 _ (Nat.ne_of_gt hzl)).trans hT
    have new : ObjOk X.prog X.w (upd H s.heap.objs.size (pT [x1, x2] [x, y])) h'' s.heap.objs.size (pT [x1, x2] [x, y]) :=
      pT_ok ⟨hT2, by show 2 ≤ sizeLine; decide, [x1, x2], .cons ru (.cons ru2 .nil), ⟨_, hT2, rfl, _, rfl⟩⟩
    have I1 : L2.Inv X pins σ (upd H s.heap.objs.size (pT [x1, x2] [x, y])) { s with heap := h'', toks := tk } :=
      I.turnedNew (t' := tk) (ch := [z, TI, TO, i1, i2]) (fun c o hb q => (sb.2 c (fun q' => hb (by simp [q']))).trans (hk c o (fun q' => hb (by simp [q'])) (fun q' => hb (by simp [q'])) (fun q' => hb (by simp [q'])) (fun q' => hb (by simp [q'])) q)) hf (Nat.le_refl _) new
    refine ⟨.ref s.heap.objs.size, _, I1, rfl, ⟨_, _, x, y, rfl, I.hok.fresh (Nat.le_refl _), rfl, fun l hl => by rw [inv_seqX_inj I hl hqx]; exact hx, fun l hl => by rw [inv_seqX_inj I hl hqy]; exact hy⟩, ⟨z'', ?_, ⟨x1, x2, ?_⟩, ?_, ?_⟩, fun c hcm => ?_⟩
    · exact (sb.2 _ Z.TIz).trans (hk _ _ Z.TIz Z.TITO Z.TIi1 Z.TIi2 hTI)
    · exact (sb.2 _ Z.TOz).trans TO'
    · exact iterX_at st1.1 fun o q => (sb.2 _ (Ne.symm Z.zi1)).trans q
    · exact iterX_at st2.1 fun o q => (sb.2 _ (Ne.symm Z.zi2)).trans q
    · have hlt : c < s.heap.objs.size := by
        have e' : c = z ∨ c = TI ∨ c = TO ∨ c = i1 ∨ c = i2 := by simpa using hcm
        rcases e' with q | q | q | q | q
        · rw [q]; exact hzl
        · rw [q]; exact Heap.lt_size hTI
        · rw [q]; exact Heap.lt_size hTO
        · rw [q]; obtain ⟨_, e1, _⟩ := iterX_obj h1; exact Heap.lt_size e1
        · rw [q]; obtain ⟨_, e2, _⟩ := iterX_obj h2; exact Heap.lt_size e2
      rw [upd_ne (Nat.ne_of_lt hlt)]
      exact (hf c hcm).1
  done := by
    intro X hP hw hK hc i pins s σ H E I hf st hg
    subst hP hw hK
    obtain ⟨hz, hTI, ⟨x0, y0, hTO⟩, h1, h2⟩ := st
    obtain ⟨xs, ys, hqx, hqy, l1, l2, hend⟩ := hg
    obtain ⟨its, rv, p, _⟩ := inv_seqX I hqx
    obtain ⟨its2, rv2, p2, _⟩ := inv_seqX I hqy
    have e1 := rv.length
    have e2 := rv2.length
    exact wpAny_pyNext_zipD2_end Z (drawsX (by exact I.ok.hd hc) k1 i1 a na its.toArray) (drawsX (by exact I.ok.hd hc) k2 i2 b nb its2.toArray) hz hTI hTO ⟨h1, p⟩ ⟨h2, p2⟩ (by rw [List.size_toArray]; omega) (by rw [List.size_toArray]; omega) (by rw [List.size_toArray, List.size_toArray]; omega) fun h' tk hk => ⟨rfl, I.turnedL (t' := tk) (ch := [z, TI, TO, i1, i2]) (fun c o hb q =>
      hk c o (fun q' => hb (by simp [q'])) (fun q' => hb (by simp [q'])) (fun q' => hb (by simp [q'])) (fun q' => hb (by simp [q'])) q) hf⟩
  self := fun A i s Q E st h => wpAny_pyIter_zip st.1 h
def iZipX (K : Frag) (ta : TA) : TI := fun σ H R => ta σ H fun vs H1 => ∃ k1 k2 a b xs ys, vs = [.ref a, .ref b] ∧ SqX K H1 k1 a xs ∧ SqX K H1 k2 b ys ∧ R (ItzX K k1 k2 a b) H1
theorem pi_zipX {X : Cx} {e e2 : Expr} {ta : TA} {p pos tpos : Pos} {elts : List Expr} {kk : Nat} (hg : Gl X "zip") (hm : X.mg "zip" = none) (ha : PA X [e, e2] ta)
    (hs : starEach [e, e2] X.env = (false, eval e X.env) :: starEach [e2] X.env) (hpl : (backTo pos (starEach [e2] X.env)).any (·.1) = false) :
    PI X (.Tuple elts kk tpos) (.Call (.Name "zip" p) [e, e2] [] pos) (iZipX X.K ta) := by
  refine ⟨fun pins s σ H R I h => ?_⟩
  refine Call_ (ld_blt I hg hm PyProof.Rows.boot_zip (PyProof.Rows.callWith_type1 (thn (ha.run pos pins s σ H _ I h) fun us s1 ⟨vs, H1, I1, r1, q1⟩ => ?_) hs hpl))
  obtain ⟨k1, k2, a, b, xs, ys, ex, hqx, hqy, q⟩ := q1
  subst ex
  cases r1 with
  | cons r rr =>
    cases rr with
    | cons r' rr =>
      cases rr
      cases r
      cases r'
      have fresh5 : ∀ c, c ∈ [s1.heap.objs.size + 4, s1.heap.objs.size + 2, s1.heap.objs.size + 3, s1.heap.objs.size, s1.heap.objs.size + 1] → FpOk X pins H1 c := fun c hcm => by
        have e' : c = s1.heap.objs.size + 4 ∨ c = s1.heap.objs.size + 2 ∨ c = s1.heap.objs.size + 3 ∨ c = s1.heap.objs.size ∨ c = s1.heap.objs.size + 1 := by simpa using hcm
        have hle : s1.heap.objs.size ≤ c := by
          rcases e' with z | z | z | z | z
          · rw [z]; exact Nat.le_add_right _ _
          · rw [z]; exact Nat.le_add_right _ _
          · rw [z]; exact Nat.le_add_right _ _
          · rw [z]; exact Nat.le_refl _
          · rw [z]; exact Nat.le_add_right _ _
        exact I1.fpOk hle (I1.hok.fresh hle)
      obtain ⟨its, rv, p1, l1⟩ := inv_seqX I1 hqx
      obtain ⟨its2, rv2, p2, l2⟩ := inv_seqX I1 hqy
      refine zip_begins2 (beginsX k1 a its.toArray) (beginsX k2 b its2.toArray) p1 p2 fun h' hz hTI hTO h1 h2 hsz hk => wpAny_pyIter_zip hz ?_
      have I2 : L2.Inv X pins σ H1 { s1 with heap := h' } := I1.kept (t' := s1.toks) hk
      refine ⟨s1.heap.objs.size + 4, [s1.heap.objs.size + 4, s1.heap.objs.size + 2, s1.heap.objs.size + 3, s1.heap.objs.size, s1.heap.objs.size + 1], _, _, H1, rfl, I2, turn_zipX k1 k2 (zip_sep2 (fp1 := [a]) (fp2 := [b]) ?_ ?_) (Nat.ne_of_lt l1) (Nat.ne_of_lt (Nat.lt_succ_of_lt l2)), ⟨hz, hTI, ⟨_, _, hTO⟩, iterX_new h1, iterX_new h2⟩, fresh5, q⟩
      · intro c hc
        have : c = a := by simpa using hc
        rw [this]; exact l1
      · intro c hc
        have : c = b := by simpa using hc
        rw [this]; exact l2
section
variable {X : Cx} {B : Base} {W : WX} {Γ Γ1 Γn : Ow} {o : OC} {e a b c : Expr} {fa fb fc fe : En → R D} {pos : Pos} {es : List Expr} {fs : En → R (List D)}
theorem dItems_noexc (x : D) (c : Str) : dItems x ≠ .exc c := by unfold dItems; split <;> exact fun z => nomatch z
/-- the items of a list or tuple, now -/
theorem seqX_of {K : Frag} {G H : Hp} {v : V} {d : D} {ds : List D} (e : Same G H) (r : RB K G H v d) (h : dItems d = .ok ds) : ∃ k a vs, v = .ref a ∧ (∀ H', Same H H' → SqX K H' k a vs) ∧ vs.length ≤ sizeLine ∧ RDs K G vs ds := by
  cases d with
  | tup xs =>
    cases h
    obtain ⟨a, vs, rfl, s, l, rs⟩ := r.tup.tup_inv
    exact ⟨false, a, vs, rfl, fun H' q => ((s.same e).same q).sq, l, rs⟩
  | lst xs =>
    cases h
    obtain ⟨a, vs, rfl, s, l, rs⟩ := r.lst e
    exact ⟨true, a, vs, rfl, fun H' q => .inl (.inl (q _ _ s)), l, rs⟩
  | arr xs =>
    cases h
    obtain ⟨a, vs, rfl, s, l, rs⟩ := r.arr e
    exact ⟨true, a, vs, rfl, fun H' q => q.seq s, l, rs⟩
  | _ => cases h
theorem seqX_fz {K : Frag} {G : Hp} {v : V} {d : D} {ds : List D} (r : RD K G v d) (h : dItems d = .ok ds) : ∃ k a vs, v = .ref a ∧ (∀ H', Same G H' → SqX K H' k a vs) ∧ vs.length ≤ sizeLine ∧ RDs K G vs ds := by
  obtain ⟨k, a, vs, e, q, l, rs⟩ := seqX_of (.refl G) (.fz (H := G) r) h
  exact ⟨k, a, vs, e, q, l, rs⟩
def enumL (ds : List D) : List D := ds.zipIdx.map fun p => .tup [.int (p.2 : Nat), p.1]
theorem enumL_get {ds : List D} {i : Nat} {d : D} (h : (enumL ds)[i]? = some d) : ∃ x, ds[i]? = some x ∧ d = .tup [.int i, x] := by
  unfold enumL at h
  rw [List.getElem?_map, List.getElem?_zipIdx] at h
  cases q : ds[i]? with
  | none => rw [q] at h; cases h
  | some x =>
    rw [q] at h
    cases h
    refine ⟨x, rfl, ?_⟩
    simp
theorem enumL_len (ds : List D) : (enumL ds).length = ds.length := by unfold enumL; rw [List.length_map, List.length_zipIdx]
theorem two_le : 2 ≤ sizeLine := by rw [sizeLine_eq]; decide
theorem it_enum {K : Frag} {k : Bool} {a : Addr} {vs : List V} {ds : List D} {G Z : Hp} (l : vs.length ≤ sizeLine) (r : RDs K G vs ds) (hz : ∀ H, Same Z H → SqX K H k a vs) : ItOk K (IteX K k a) (enumL ds) G Z :=
  ⟨by rw [enumL_len, ← r.length]; exact l, fun G1 H1 _ _ h => ⟨vs, hz H1 h, by rw [enumL_len]; exact r.length⟩,
    fun i d G1 H1 e _ _ h => by
      obtain ⟨x, ex, _⟩ := enumL_get e
      obtain ⟨v, ev, _⟩ := r.get ex
      exact ⟨vs, v, hz H1 h, ev⟩,
    fun i d G1 H1 x H2 e g gh h y => by
      obtain ⟨T, us, xv, rfl, hT, rfl, y⟩ := y
      obtain ⟨xd, ex, rfl⟩ := enumL_get e
      obtain ⟨v, ev, rd⟩ := r.get ex
      have := y vs (hz _ h)
      rw [ev] at this
      cases this
      obtain ⟨g2, rt⟩ := new_tup (K := K) (vs := [V.int (i : Nat), xv]) gh hT two_le (RDs.cons (.int (i : Nat)) (.cons (rd.mono g) .nil))
      exact ⟨_, g2, rt⟩⟩
def eEnum (fs : En → R (List D)) : En → R (List D) := fun s => fs s >>= fun ds => match ds with
  | [d] => dItems d >>= fun xs => .ok (enumL xs)
  | _ => .stuck
theorem ei_enum {elts : List Expr} {kk : Nat} {tpos p : Pos} (hs : noStar a = true) (hg : Gl X "enumerate") (hm : X.mg "enumerate" = none) (ha : EBs X B W Γ [a] fs) : EI X B W Γ (.Tuple elts kk tpos) (.Call (.Name "enumerate" p) [a] [] pos) (eEnum fs) :=
  PI.imp (pi_enumX hg hm ha (noStar_ok hs _ _)) fun σ H R ⟨s, G, rl, k⟩ => ⟨s, G, rl, k.bind.imp (fun ds _ k vs G1 H1 g1 rs => by
    cases rs with
    | nil => exact k.elim
    | cons r rr =>
      cases rr with
      | cons _ _ => exact k.elim
      | nil =>
        obtain ⟨xs, e, k⟩ := (show Done (dItems _ >>= fun xs => Hr.R.ok (enumL xs)) _ _ from k).bind.ok (dItems_noexc _)
        obtain ⟨kb, a', vs', rfl, hq, l, rs'⟩ := seqX_of g1.gh r e
        exact ⟨kb, a', vs', rfl, hq _ (.refl _), k _ G1 H1 g1 (it_enum l rs' hq)⟩) fun _ z => z⟩
theorem eif_enum {elts : List Expr} {kk : Nat} {tpos p : Pos} (hs : noStar a = true) (hg : Gl X "enumerate") (hm : X.mg "enumerate" = none) (ha : EVs X B W Γ [a] fs) : EIf X B W Γ (.Tuple elts kk tpos) (.Call (.Name "enumerate" p) [a] [] pos) (eEnum fs) :=
  PI.imp (pi_enumX hg hm ha (noStar_ok hs _ _)) fun σ H R ⟨s, G, rl, k⟩ => ⟨s, G, rl, k.bind.imp (fun ds _ k vs G1 H1 g1 rs => by
    cases rs with
    | nil => exact k.elim
    | cons r rr =>
      cases rr with
      | cons _ _ => exact k.elim
      | nil =>
        obtain ⟨xs, e, k⟩ := (show Done (dItems _ >>= fun xs => Hr.R.ok (enumL xs)) _ _ from k).bind.ok (dItems_noexc _)
        obtain ⟨kb, a', vs', rfl, hq, l, rs'⟩ := seqX_fz r e
        exact ⟨kb, a', vs', rfl, hq _ g1.gh, k _ G1 H1 g1 (it_enum l rs' hq)⟩) fun _ z => z⟩
def zipL (xs ys : List D) : List D := List.zipWith (fun x y => .tup [x, y]) xs ys
theorem it_zip {K : Frag} {k1 k2 : Bool} {a b : Addr} {vs ws : List V} {ds es : List D} {G Z : Hp} (l : vs.length ≤ sizeLine) (r : RDs K G vs ds) (r2 : RDs K G ws es) (hz : ∀ H, Same Z H → SqX K H k1 a vs) (hz2 : ∀ H, Same Z H → SqX K H k2 b ws) : ItOk K (ItzX K k1 k2 a b) (zipL ds es) G Z := by
  have hl : (zipL ds es).length = min ds.length es.length := by unfold zipL; rw [List.length_zipWith]
  have get : ∀ (i : Nat) (d : D), (zipL ds es)[i]? = some d → ∃ x y, ds[i]? = some x ∧ es[i]? = some y ∧ d = D.tup [x, y] := by
    intro i d h
    unfold zipL at h
    rw [List.getElem?_zipWith] at h
    cases q1 : ds[i]? with
    | none => rw [q1] at h; simp at h
    | some x =>
      cases q2 : es[i]? with
      | none => rw [q1, q2] at h; simp at h
      | some y =>
        rw [q1, q2] at h
        simp at h
        exact ⟨x, y, rfl, rfl, h.symm⟩
  refine ⟨by rw [hl]; have := r.length; omega, fun G1 H1 _ _ h => ⟨vs, ws, hz H1 h, hz2 H1 h, ?_, ?_, ?_⟩, fun i d G1 H1 e _ _ h => ?_, fun i d G1 H1 x H2 e g gh h y => ?_⟩
  · rw [hl, r.length]; omega
  · rw [hl, r2.length]; omega
  · rw [hl, r.length, r2.length]; omega
  · obtain ⟨x, y, ex, ey, _⟩ := get i d e
    obtain ⟨v, ev, _⟩ := r.get ex
    obtain ⟨v2, ev2, _⟩ := r2.get ey
    exact ⟨vs, ws, v, v2, hz H1 h, hz2 H1 h, ev, ev2⟩
  · obtain ⟨T, us, xv, yv, rfl, hT, rfl, y1, y2⟩ := y
    obtain ⟨xd, yd, ex, ey, rfl⟩ := get i d e
    obtain ⟨v, ev, rd⟩ := r.get ex
    obtain ⟨v2, ev2, rd2⟩ := r2.get ey
    have q1 := y1 vs (hz _ h)
    have q2 := y2 ws (hz2 _ h)
    rw [ev] at q1
    rw [ev2] at q2
    cases q1; cases q2
    obtain ⟨g2, rt⟩ := new_tup (K := K) (vs := [xv, yv]) gh hT two_le (RDs.cons (rd.mono g) (.cons (rd2.mono g) .nil))
    exact ⟨_, g2, rt⟩
def eZip (fs : En → R (List D)) : En → R (List D) := fun s => fs s >>= fun ds => match ds with
  | [d, e] => dItems d >>= fun xs => dItems e >>= fun ys => .ok (zipL xs ys)
  | _ => .stuck
theorem ei_zip {elts : List Expr} {kk : Nat} {tpos p : Pos} (hs : noStar a = true) (hs2 : noStar b = true) (hg : Gl X "zip") (hm : X.mg "zip" = none) (ha : EBs X B W Γ [a, b] fs) : EI X B W Γ (.Tuple elts kk tpos) (.Call (.Name "zip" p) [a, b] [] pos) (eZip fs) :=
  PI.imp (pi_zipX hg hm ha (noStar_ok hs _ _) (noStars_any (by simp [hs2]))) fun σ H R ⟨s, G, rl, k⟩ => ⟨s, G, rl, k.bind.imp (fun ds _ k vs G1 H1 g1 rs => by
    cases rs with
    | nil => exact k.elim
    | cons r rr =>
      cases rr with
      | nil => exact k.elim
      | cons r2 rr =>
        cases rr with
        | cons _ _ => exact k.elim
        | nil =>
          obtain ⟨xs, e, k⟩ := (show Done (dItems _ >>= fun xs => dItems _ >>= fun ys => Hr.R.ok (zipL xs ys)) _ _ from k).bind.ok (dItems_noexc _)
          obtain ⟨ys, e2, k⟩ := k.bind.ok (dItems_noexc _)
          obtain ⟨k1, a', vs', rfl, hq, l, rs'⟩ := seqX_of g1.gh r e
          obtain ⟨k2, b', ws', rfl, hq2, l2, rs2'⟩ := seqX_of g1.gh r2 e2
          exact ⟨k1, k2, a', b', vs', ws', rfl, hq _ (.refl _), hq2 _ (.refl _), k _ G1 H1 g1 (it_zip l rs' rs2' hq hq2)⟩) fun _ z => z⟩
theorem eif_zip {elts : List Expr} {kk : Nat} {tpos p : Pos} (hs : noStar a = true) (hs2 : noStar b = true) (hg : Gl X "zip") (hm : X.mg "zip" = none) (ha : EVs X B W Γ [a, b] fs) : EIf X B W Γ (.Tuple elts kk tpos) (.Call (.Name "zip" p) [a, b] [] pos) (eZip fs) :=
  PI.imp (pi_zipX hg hm ha (noStar_ok hs _ _) (noStars_any (by simp [hs2]))) fun σ H R ⟨s, G, rl, k⟩ => ⟨s, G, rl, k.bind.imp (fun ds _ k vs G1 H1 g1 rs => by
    cases rs with
    | nil => exact k.elim
    | cons r rr =>
      cases rr with
      | nil => exact k.elim
      | cons r2 rr =>
        cases rr with
        | cons _ _ => exact k.elim
        | nil =>
          obtain ⟨xs, e, k⟩ := (show Done (dItems _ >>= fun xs => dItems _ >>= fun ys => Hr.R.ok (zipL xs ys)) _ _ from k).bind.ok (dItems_noexc _)
          obtain ⟨ys, e2, k⟩ := k.bind.ok (dItems_noexc _)
          obtain ⟨k1, a', vs', rfl, hq, l, rs'⟩ := seqX_fz r e
          obtain ⟨k2, b', ws', rfl, hq2, l2, rs2'⟩ := seqX_fz r2 e2
          exact ⟨k1, k2, a', b', vs', ws', rfl, hq _ g1.gh, hq2 _ g1.gh, k _ G1 H1 g1 (it_zip l rs' rs2' hq hq2)⟩) fun _ z => z⟩
end
end Hr

end
section
/-! HrJb: enumerate(zip(xs, ys)) -/
namespace Hr
open PySem PySem.Spec PyProof.Rows L2
/-- a zip that stands inside another iterator: what it once told may still be out -/
def ZipE (h : Heap) (z TI TO : Addr) : Prop :=
  ∃ (v : Value) (f : Bool), (v = .none ∨ ∃ T : Addr, v = rawInt T) ∧ h.get? z = some { cls := .type "zip", dict := none, data := .fields #[v, .bool f, .bool false, .ref TI, .ref TO], slots := #[] }
theorem ZipE.of {h : Heap} {z TI TO : Addr} (x : IsZip h z TI TO .none) : ZipE h z TI TO := ⟨_, _, .inl rfl, x⟩
section
variable {prog : Program} {w : World} {A : Around} {E : Value → Shared → Prop} {s : Shared} {z TI TO i1 i2 : Addr} {fp1 fp2 : List Addr} {n1 n2 i : Nat} {P1 P2 : Nat → Value → Prop} {St1 St2 : Nat → Heap → Prop} {a1 a2 : Value}
theorem zipE_free {Q : Bool → Shared → Prop} {v : Value} {f : Bool} (hv : v = .none ∨ ∃ T : Addr, v = rawInt T) (hz : s.heap.get? z = some { cls := .type "zip", dict := none, data := .fields #[v, .bool f, .bool false, .ref TI, .ref TO], slots := #[] })
    (k : ∀ b h' f', h'.get? z = some { cls := .type "zip", dict := none, data := .fields #[v, .bool f', .bool false, .ref TI, .ref TO], slots := #[] } → Heap.SameBut z s.heap h' → Q b { s with heap := h' }) :
    wpAny (model prog w) A (Builtin.SmallTypes.ownedTupleIsFree (.ref z)) Q E s := by
  unfold Builtin.SmallTypes.ownedTupleIsFree
  rcases hv with rfl | ⟨T, rfl⟩
  · exact wpAny_bind (wpAny_field hz rfl (x := .none) rfl (wpAny_pure (k true s.heap f hz (Heap.SameBut.refl _ _))))
  · refine wpAny_bind (wpAny_field hz rfl (x := rawInt T) rfl ?_)
    show wpAny _ _ (loadIfAlive ((T : Int).toNat) >>= _) _ _ _
    rw [Int.toNat_natCast]
    refine wpAny_bind ?_
    cases hT : s.heap.get? T with
    | none =>
      have q : ∀ {Z : Option Obj → Shared → Prop}, Z none s → wpAny (model prog w) A (loadIfAlive T) Z E s := fun {Z} hz => by
        have h' : Z (s.heap.get? T) s := by rw [hT]; exact hz
        exact fun _ _ _ => h'
      exact q (wpAny_pure (k true s.heap f hz (Heap.SameBut.refl _ _)))
    | some oT =>
      have q : ∀ {Z : Option Obj → Shared → Prop}, Z (some oT) s → wpAny (model prog w) A (loadIfAlive T) Z E s := fun {Z} hz => by
        have h' : Z (s.heap.get? T) s := by rw [hT]; exact hz
        exact fun _ _ _ => h'
      refine q ?_
      simp only [Option.isNone_some, Bool.false_eq_true, if_false]
      refine wpAny_bind (wpAny_field hz rfl (x := .bool f) rfl ?_)
      cases f with
      | true =>
        rw [if_neg (by decide)]
        exact wpAny_pure (k false s.heap true hz (Heap.SameBut.refl _ _))
      | false =>
        rw [if_pos (by decide)]
        exact wpAny_bind (wpAny_setField_rec hz (by simp) fun g1 z1 sb => wpAny_pure (k false g1 true z1 sb))
set_option maxHeartbeats 1600000 in
theorem zipE_item {Q : Value → Shared → Prop} (S : ZipSep2 z TI TO i1 i2 fp1 fp2) (D1 : Draws prog w A i1 fp1 n1 P1 St1) (D2 : Draws prog w A i2 fp2 n2 P2 St2)
    (hz : ZipE s.heap z TI TO) (hTI : IsTupOf2 s.heap TI (.ref i1) (.ref i2)) (hTO : IsTupOf2 s.heap TO a1 a2) (st1 : St1 i s.heap) (st2 : St2 i s.heap) (lt1 : i < n1) (lt2 : i < n2)
    (k : ∀ x1 x2 h' tk, P1 i x1 → P2 i x2 → ZipE h' z TI TO → (∃ y1 y2, IsTupOf2 h' TO y1 y2) → St1 (i + 1) h' → St2 (i + 1) h' → IsTupOf2 h' s.heap.objs.size x1 x2 → h'.objs.size = s.heap.objs.size + 1 →
      (∀ c o, c ≠ z → c ≠ TO → c ≠ i1 → c ≠ i2 → s.heap.get? c = some o → h'.get? c = some o) → Q (.ref s.heap.objs.size) { s with heap := h', toks := tk }) :
    wpAny (model prog w) A (Builtin.«zip.__next__» ⟨[.ref z], []⟩) (fun fin s' => ∃ v, fin = .done (.ret v) ∧ Q v s') E s := by
  obtain ⟨hp, g, d, t0, os⟩ := s
  obtain ⟨v, f, hv, hz⟩ := hz
  show wpAny _ _ (field (.ref z) 2 >>= _) _ _ _
  refine wpAny_bind (wpAny_field hz rfl (x := .bool false) rfl ?_)
  show wpAny _ _ (field (.ref z) 3 >>= _) _ _ _
  refine wpAny_bind (wpAny_field hz rfl (x := .ref TI) rfl ?_)
  refine wpAny_bind (wpAny_seqItems hTI rfl ?_)
  show wpAny _ _ (Builtin.SmallTypes.ownedTupleIsFree (.ref z) >>= _) _ _ _
  refine wpAny_bind (zipE_free hv hz fun b q0 f0 hq0 hs => ?_)
  replace hs : Heap.SameBut z hp q0 := hs
  cases b with
  | true =>
    simp only [if_true]
    refine wpAny_bind (wpAny_rule ?_)
    refine wpAny_bind (wpAny_field (s := ⟨q0, g, d, t0, os⟩) hq0 rfl (x := .ref TO) rfl ?_)
    refine wpAny_bind (wpAny_setField_rec (s := ⟨q0, g, d, t0, os⟩) hq0 (by simp) fun g0 hz0 hs0 => ?_)
    replace hz0 : g0.get? z = some { cls := .type "zip", dict := none, data := .fields #[.ellipsis, .bool f0, .bool false, .ref TI, .ref TO], slots := #[] } := hz0
    replace hs0 : Heap.SameBut z q0 g0 := hs0
    have hs1 : Heap.SameBut z hp g0 := ⟨hs0.1.trans hs.1, fun b n => (hs0.2 b n).trans (hs.2 b n)⟩
    refine wpAny_bind ?_
    simp only [List.zipIdx_cons, List.zipIdx_nil, List.forIn_cons, List.forIn_nil]
    refine wpAny_bind (wpAny_bind (wpAny_onRaise ?_))
    show wpAny _ _ (Builtin.SmallTypes.nextOf (.ref i1) >>= _) _ _ ⟨g0, g, d, t0, os⟩
    refine wpAny_bind (D1.item i _ _ _ lt1 (D1.over st1 hs1 S.zf1) fun x1 p1 t1 hx1 sn1 hp1 => wpAny_pure ?_)
    replace hp1 : Heap.SameBut i1 g0 p1 := hp1
    have u1 : IsTupOf2 p1 TO a1 a2 := hp1.extBut _ _ S.Ti1 (hs1.extBut _ _ S.TOz hTO)
    refine wpAny_bind (wpAny_seqItems (s := ⟨p1, g, d, t1, os⟩) u1 rfl ?_)
    refine wpAny_bind (updateSeq_IsTupOf2 (s := ⟨p1, g, d, t1, os⟩) u1 fun g1 hT1 hs2 => ?_)
    replace hT1 : IsTupOf2 g1 TO x1 a2 := hT1
    replace hs2 : Heap.SameBut TO p1 g1 := hs2
    refine wpAny_bind (wpAny_letGo (wpAny_pure ?_))
    refine wpAny_bind (wpAny_bind (wpAny_onRaise ?_))
    show wpAny _ _ (Builtin.SmallTypes.nextOf (.ref i2) >>= _) _ _ ⟨g1, g, d, t1, os⟩
    refine wpAny_bind (D2.item i _ _ _ lt2 (D2.over (D2.over (D2.over st2 hs1 S.zf2) hp1 S.sep1_2) hs2 S.Tf2) fun x2 p2 t2 hx2 sn2 hp2 => wpAny_pure ?_)
    replace hp2 : Heap.SameBut i2 g1 p2 := hp2
    have u2 : IsTupOf2 p2 TO x1 a2 := hp2.extBut _ _ S.Ti2 hT1
    refine wpAny_bind (wpAny_seqItems (s := ⟨p2, g, d, t2, os⟩) u2 rfl ?_)
    refine wpAny_bind (updateSeq_IsTupOf2 (s := ⟨p2, g, d, t2, os⟩) u2 fun g2 hT2 hs3 => ?_)
    replace hT2 : IsTupOf2 g2 TO x1 x2 := hT2
    replace hs3 : Heap.SameBut TO p2 g2 := hs3
    refine wpAny_bind (wpAny_letGo (wpAny_pure (wpAny_pure ?_)))
    refine wpAny_bind (wpAny_seqItems (s := ⟨g2, g, d, t2, os⟩) hT2 rfl ?_)
    refine wpAny_bind (wpAny_newTuple ?_)
    have hsz : g2.objs.size = hp.objs.size := by rw [hs3.1, hp2.1, hs2.1, hp1.1, hs1.1]
    have hzz : g2.get? z = some { cls := .type "zip", dict := none, data := .fields #[.ellipsis, .bool f0, .bool false, .ref TI, .ref TO], slots := #[] } := hs3.extBut _ _ S.TOz.symm (hp2.extBut _ _ S.zi2 (hs2.extBut _ _ S.TOz.symm (hp1.extBut _ _ S.zi1 hz0)))
    have keep : ∀ c o, c ≠ z → c ≠ TO → c ≠ i1 → c ≠ i2 → hp.get? c = some o → g2.get? c = some o := fun c o cz cT c1 c2 e =>
      hs3.extBut _ _ cT (hp2.extBut _ _ c2 (hs2.extBut _ _ cT (hp1.extBut _ _ c1 (hs1.extBut _ _ cz e))))
    have j1 : St1 (i + 1) g2 := D1.over (D1.over (D1.over sn1 hs2 S.Tf1) hp2 S.sep2_1) hs3 S.Tf1
    have j2 : St2 (i + 1) g2 := D2.over sn2 hs3 S.Tf2
    have zlt : z < g2.objs.size := Heap.lt_size hzz
    show wpAny _ _ (Builtin.SmallTypes.ownedTupleHandOut (.ref z) (.ref g2.objs.size) >>= _) _ _ ⟨g2.push { cls := .type "tuple", data := .seq #[x1, x2] }, g, d, t2, os⟩
    refine wpAny_bind ?_
    unfold Builtin.SmallTypes.ownedTupleHandOut
    have z6 := Heap.get?_push_of_some { cls := .type "tuple", data := .seq #[x1, x2] } hzz
    refine wpAny_bind (wpAny_setField_rec (s := ⟨g2.push { cls := .type "tuple", data := .seq #[x1, x2] }, g, d, t2, os⟩) z6 (by simp) fun h7 z7 s7 => ?_)
    refine wpAny_setField_rec z7 (by simp) fun h8 z8 s8 => ?_
    replace s7 : Heap.SameBut z (g2.push { cls := .type "tuple", data := .seq #[x1, x2] }) h7 := s7
    replace s8 : Heap.SameBut z h7 h8 := s8
    have up : ∀ c o, c ≠ z → g2.get? c = some o → h8.get? c = some o := fun c o c1 e => s8.extBut _ _ c1 (s7.extBut _ _ c1 (Heap.get?_push_of_some _ e))
    have hT8 : IsTupOf2 h8 g2.objs.size x1 x2 := s8.extBut _ _ (Nat.ne_of_gt zlt) (s7.extBut _ _ (Nat.ne_of_gt zlt) (Heap.get?_push_size _ rfl))
    have sz8 : h8.objs.size = g2.objs.size + 1 := by rw [s8.1, s7.1, Heap.size_push]
    have z9 : ZipE h8 z TI TO := ⟨rawInt g2.objs.size, false, .inr ⟨_, rfl⟩, z8⟩
    rw [hsz] at hT8 sz8
    refine wpAny_pure ⟨_, rfl, ?_⟩
    show Q (.ref g2.objs.size) ⟨h8, g, d, t2, os⟩
    rw [hsz]
    exact k x1 x2 h8 t2 hx1 hx2 z9 ⟨_, _, up _ _ S.TOz hT2⟩ (D1.frame _ _ _ j1 fun b hb o e => up b o (fun q => S.zf1 (q ▸ hb)) e) (D2.frame _ _ _ j2 fun b hb o e => up b o (fun q => S.zf2 (q ▸ hb)) e) hT8 sz8 fun c o cz cT c1 c2 e => up c o cz (keep c o cz cT c1 c2 e)
  | false =>
    simp only [Bool.false_eq_true, if_false]
    refine wpAny_bind ?_
    rw [← Array.forIn_toList]
    simp only [List.forIn_cons, List.forIn_nil]
    refine wpAny_bind (wpAny_bind (wpAny_holding ?_))
    show wpAny _ _ (Builtin.SmallTypes.nextOf (.ref i1) >>= _) _ _ ⟨q0, g, d, t0, os⟩
    refine wpAny_bind (D1.item i _ _ _ lt1 (D1.over st1 hs S.zf1) fun x1 p1 t1 hx1 sn1 hp1 => wpAny_pure ?_)
    replace hp1 : Heap.SameBut i1 q0 p1 := hp1
    refine wpAny_pure ?_
    refine wpAny_bind (wpAny_bind (wpAny_holding ?_))
    show wpAny _ _ (Builtin.SmallTypes.nextOf (.ref i2) >>= _) _ _ ⟨p1, g, d, t1, os⟩
    refine wpAny_bind (D2.item i _ _ _ lt2 (D2.over (D2.over st2 hs S.zf2) hp1 S.sep1_2) fun x2 p2 t2 hx2 sn2 hp2 => wpAny_pure ?_)
    replace hp2 : Heap.SameBut i2 p1 p2 := hp2
    refine wpAny_pure (wpAny_pure ?_)
    show wpAny _ _ (newTuple [x1, x2] >>= _) _ _ _
    refine wpAny_bind (wpAny_newTuple ?_)
    have hsz : p2.objs.size = hp.objs.size := by rw [hp2.1, hp1.1, hs.1]
    have z3 := hp2.extBut _ _ S.zi2 (hp1.extBut _ _ S.zi1 hq0)
    have keep : ∀ c o, c ≠ z → c ≠ i1 → c ≠ i2 → hp.get? c = some o → p2.get? c = some o := fun c o cz c1 c2 e => hp2.extBut _ _ c2 (hp1.extBut _ _ c1 (hs.extBut _ _ cz e))
    have j1 : St1 (i + 1) p2 := D1.over sn1 hp2 S.sep2_1
    refine wpAny_pure ⟨_, rfl, ?_⟩
    show Q (.ref p2.objs.size) _
    have hT8 : IsTupOf2 (p2.push { cls := .type "tuple", data := .seq #[x1, x2] }) p2.objs.size x1 x2 := Heap.get?_push_size _ rfl
    have sz8 : (p2.push { cls := .type "tuple", data := .seq #[x1, x2] }).objs.size = p2.objs.size + 1 := Heap.size_push ..
    rw [hsz] at hT8 sz8 ⊢
    have up : ∀ c o, p2.get? c = some o → (p2.push { cls := .type "tuple", data := .seq #[x1, x2] }).get? c = some o := fun c o e => Heap.get?_push_of_some _ e
    exact k x1 x2 _ t2 hx1 hx2 ⟨_, _, hv, up _ _ z3⟩ ⟨a1, a2, up _ _ (keep _ _ S.TOz S.Ti1 S.Ti2 hTO)⟩ (D1.frame _ _ _ j1 fun b _ o e => up b o e) (D2.frame _ _ _ sn2 fun b _ o e => up b o e) hT8 sz8 fun c o cz _ c1 c2 e => up c o (keep c o cz c1 c2 e)
set_option maxHeartbeats 1600000 in
theorem zipE_end {Q : PySem.Fin → Shared → Prop} (S : ZipSep2 z TI TO i1 i2 fp1 fp2) (D1 : Draws prog w A i1 fp1 n1 P1 St1) (D2 : Draws prog w A i2 fp2 n2 P2 St2)
    (hz : ZipE s.heap z TI TO) (hTI : IsTupOf2 s.heap TI (.ref i1) (.ref i2)) (hTO : IsTupOf2 s.heap TO a1 a2) (st1 : St1 i s.heap) (st2 : St2 i s.heap) (le1 : i ≤ n1) (le2 : i ≤ n2) (hend : i = n1 ∨ i = n2)
    (k : ∀ h' tk e, (∀ c o, c ≠ z → c ≠ TO → c ≠ i1 → c ≠ i2 → s.heap.get? c = some o → h'.get? c = some o) → (∃ o, h'.get? e = some o ∧ o.cls = .type "StopIteration") → E (.ref e) { s with heap := h', toks := tk }) :
    wpAny (model prog w) A (Builtin.«zip.__next__» ⟨[.ref z], []⟩) Q E s := by
  obtain ⟨hp, g, d, t0, os⟩ := s
  obtain ⟨v, f, hv, hz⟩ := hz
  show wpAny _ _ (field (.ref z) 2 >>= _) _ _ _
  refine wpAny_bind (wpAny_field hz rfl (x := .bool false) rfl ?_)
  show wpAny _ _ (field (.ref z) 3 >>= _) _ _ _
  refine wpAny_bind (wpAny_field hz rfl (x := .ref TI) rfl ?_)
  refine wpAny_bind (wpAny_seqItems hTI rfl ?_)
  show wpAny _ _ (Builtin.SmallTypes.ownedTupleIsFree (.ref z) >>= _) _ _ _
  refine wpAny_bind (zipE_free hv hz fun b q0 f0 hq0 hs => ?_)
  replace hs : Heap.SameBut z hp q0 := hs
  cases b with
  | true =>
    simp only [if_true]
    refine wpAny_bind (wpAny_rule ?_)
    refine wpAny_bind (wpAny_field (s := ⟨q0, g, d, t0, os⟩) hq0 rfl (x := .ref TO) rfl ?_)
    refine wpAny_bind (wpAny_setField_rec (s := ⟨q0, g, d, t0, os⟩) hq0 (by simp) fun g0 hz0 hs0 => ?_)
    replace hz0 : g0.get? z = some { cls := .type "zip", dict := none, data := .fields #[.ellipsis, .bool f0, .bool false, .ref TI, .ref TO], slots := #[] } := hz0
    replace hs0 : Heap.SameBut z q0 g0 := hs0
    have hs1 : Heap.SameBut z hp g0 := ⟨hs0.1.trans hs.1, fun b n => (hs0.2 b n).trans (hs.2 b n)⟩
    refine wpAny_bind ?_
    simp only [List.zipIdx_cons, List.zipIdx_nil, List.forIn_cons, List.forIn_nil]
    refine wpAny_bind (wpAny_bind (wpAny_onRaise ?_))
    show wpAny _ _ (Builtin.SmallTypes.nextOf (.ref i1) >>= _) _ _ ⟨g0, g, d, t0, os⟩
    by_cases lt1 : i < n1
    · refine wpAny_bind (D1.item i _ _ _ lt1 (D1.over st1 hs1 S.zf1) fun x1 p1 t1 hx1 sn1 hp1 => wpAny_pure ?_)
      replace hp1 : Heap.SameBut i1 g0 p1 := hp1
      have u1 : IsTupOf2 p1 TO a1 a2 := hp1.extBut _ _ S.Ti1 (hs1.extBut _ _ S.TOz hTO)
      refine wpAny_bind (wpAny_seqItems (s := ⟨p1, g, d, t1, os⟩) u1 rfl ?_)
      refine wpAny_bind (updateSeq_IsTupOf2 (s := ⟨p1, g, d, t1, os⟩) u1 fun g1 hT1 hs2 => ?_)
      replace hs2 : Heap.SameBut TO p1 g1 := hs2
      refine wpAny_bind (wpAny_letGo (wpAny_pure ?_))
      have hi2 : i = n2 := by omega
      refine wpAny_bind (wpAny_bind (wpAny_onRaise ?_))
      show wpAny _ _ (Builtin.SmallTypes.nextOf (.ref i2) >>= _) _ _ ⟨g1, g, d, t1, os⟩
      refine wpAny_bind (D2.done ⟨g1, g, d, t1, os⟩ _ _ (by rw [← hi2]; exact D2.over (D2.over (D2.over st2 hs1 S.zf2) hp1 S.sep1_2) hs2 S.Tf2) fun q e hq he => ?_)
      replace hq : Heap.ExtBut i2 g1 q := hq
      obtain ⟨oe, hoe, hce⟩ := he
      replace hoe : q.get? e = some oe := hoe
      have hzq := hq _ _ S.zi2 (hs2.extBut _ _ S.TOz.symm (hp1.extBut _ _ S.zi1 hz0))
      have hez : e ≠ z := fun x => by subst x; rw [hzq] at hoe; cases hoe; simp at hce
      refine wpAny_setField_rec (s := ⟨q, g, d, t1, os⟩) hzq (by simp) fun q' _ hq' => ?_
      replace hq' : Heap.SameBut z q q' := hq'
      exact k q' t1 e (fun c o cz cT c1 c2 x => hq'.extBut _ _ cz (hq _ _ c2 (hs2.extBut _ _ cT (hp1.extBut _ _ c1 (hs1.extBut _ _ cz x))))) ⟨oe, hq'.extBut _ _ hez hoe, hce⟩
    · have hi1 : i = n1 := by omega
      refine wpAny_bind (D1.done ⟨g0, g, d, t0, os⟩ _ _ (by rw [← hi1]; exact D1.over st1 hs1 S.zf1) fun q e hq he => ?_)
      replace hq : Heap.ExtBut i1 g0 q := hq
      obtain ⟨oe, hoe, hce⟩ := he
      replace hoe : q.get? e = some oe := hoe
      have hzq := hq _ _ S.zi1 hz0
      have hez : e ≠ z := fun x => by subst x; rw [hzq] at hoe; cases hoe; simp at hce
      refine wpAny_setField_rec (s := ⟨q, g, d, t0, os⟩) hzq (by simp) fun q' _ hq' => ?_
      replace hq' : Heap.SameBut z q q' := hq'
      exact k q' t0 e (fun c o cz cT c1 c2 x => hq'.extBut _ _ cz (hq _ _ c1 (hs1.extBut _ _ cz x))) ⟨oe, hq'.extBut _ _ hez hoe, hce⟩
  | false =>
    simp only [Bool.false_eq_true, if_false]
    refine wpAny_bind ?_
    rw [← Array.forIn_toList]
    simp only [List.forIn_cons, List.forIn_nil]
    refine wpAny_bind (wpAny_bind (wpAny_holding ?_))
    show wpAny _ _ (Builtin.SmallTypes.nextOf (.ref i1) >>= _) _ _ ⟨q0, g, d, t0, os⟩
    by_cases lt1 : i < n1
    · refine wpAny_bind (D1.item i _ _ _ lt1 (D1.over st1 hs S.zf1) fun x1 p1 t1 hx1 sn1 hp1 => wpAny_pure ?_)
      replace hp1 : Heap.SameBut i1 q0 p1 := hp1
      refine wpAny_pure ?_
      have hi2 : i = n2 := by omega
      refine wpAny_bind (wpAny_bind (wpAny_holding ?_))
      show wpAny _ _ (Builtin.SmallTypes.nextOf (.ref i2) >>= _) _ _ ⟨p1, g, d, t1, os⟩
      refine wpAny_bind (D2.done ⟨p1, g, d, t1, os⟩ _ _ (by rw [← hi2]; exact D2.over (D2.over st2 hs S.zf2) hp1 S.sep1_2) fun q e hq he => ?_)
      replace hq : Heap.ExtBut i2 p1 q := hq
      exact k q t1 e (fun c o cz _ c1 c2 x => hq _ _ c2 (hp1.extBut _ _ c1 (hs.extBut _ _ cz x))) he
    · have hi1 : i = n1 := by omega
      refine wpAny_bind (D1.done ⟨q0, g, d, t0, os⟩ _ _ (by rw [← hi1]; exact D1.over st1 hs S.zf1) fun q e hq he => ?_)
      replace hq : Heap.ExtBut i1 q0 q := hq
      exact k q t0 e (fun c o cz _ c1 _ x => hq _ _ c1 (hs.extBut _ _ cz x)) he
/-- a turn of enumerate, whatever stands in it -/
theorem enumE_item {e it : Addr} {c : Int} {old : Value} {Q : Option Value → Shared → Prop} (he : IsEnum s.heap e it c old)
    (k : wpAny (model prog w) A.in1 (Builtin.SmallTypes.nextOf (.ref it)) (fun x s1 => IsEnum s1.heap e it c old ∧ ∀ h', IsEnumOut h' e it (c + 1) x s1.heap.objs.size →
      h'.get? s1.heap.objs.size = some { cls := .type "tuple", data := .seq #[.int c s1.toks, x] } → h'.objs.size = s1.heap.objs.size + 1 →
      (∀ b o, b ≠ e → s1.heap.get? b = some o → h'.get? b = some o) → Q (some (.ref s1.heap.objs.size)) { s1 with heap := h', toks := s1.toks + 1 })
      (fun x s1 => (∃ a o, x = .ref a ∧ s1.heap.get? a = some o ∧ o.cls = .type "StopIteration") ∧ Q none s1) s) :
    wpAny (model prog w) A (pyNext (.ref e)) Q E s := by
  have hT : s.TypeIs (.ref e) "enumerate" := ⟨_, he, rfl⟩
  unfold pyNext
  refine wpAny_bind (wpAny_attempt (wpAny_callSpecial?_slot (name := Str.ofString "__next__") hT F.slot_enumerate_next
    (wpAny_call_entry F.slot_enumerate_next hT F.entry_enumerate_next ?_ (F.args_enumerate_next_1 _))))
  show wpAny _ _ (field (.ref e) 2 >>= _) _ _ _
  refine wpAny_bind (wpAny_field he rfl (x := .ref it) rfl ?_)
  refine wpAny_bind (wpAny_mono k (fun x s1 hx => ?_) fun x s1 hx => ?_)
  · obtain ⟨he1, hx⟩ := hx
    obtain ⟨h1, g, d, tk, os⟩ := s1
    replace he1 : IsEnum h1 e it c old := he1
    show wpAny _ _ (field (.ref e) 3 >>= _) _ _ ⟨h1, g, d, tk, os⟩
    refine wpAny_bind (wpAny_field he1 rfl (x := rawInt c) rfl ?_)
    show wpAny _ _ (field (.ref e) 4 >>= _) _ _ ⟨h1, g, d, tk, os⟩
    refine wpAny_bind (wpAny_field he1 rfl (x := .none) rfl ?_)
    show wpAny _ _ (mkInt c >>= _) _ _ ⟨h1, g, d, tk, os⟩
    refine wpAny_bind (wpAny_mkInt ?_)
    show wpAny _ _ (setField (.ref e) 3 (rawInt (c + 1)) >>= _) _ _ ⟨h1, g, d, tk + 1, os⟩
    refine wpAny_bind (wpAny_setField_rec (s := ⟨h1, g, d, tk + 1, os⟩) he1 (by simp) fun h2 e2 s2 => ?_)
    replace s2 : Heap.SameBut e h1 h2 := s2
    replace e2 : IsEnum h2 e it (c + 1) old := e2
    show wpAny _ _ (setField (.ref e) 4 .none >>= _) _ _ ⟨h2, g, d, tk + 1, os⟩
    refine wpAny_bind (wpAny_setField_rec (s := ⟨h2, g, d, tk + 1, os⟩) e2 (by simp) fun h3 e3 s3 => ?_)
    replace s3 : Heap.SameBut e h2 h3 := s3
    replace e3 : IsEnum h3 e it (c + 1) old := e3
    show wpAny _ _ (newTuple [.int c tk, x] >>= _) _ _ ⟨h3, g, d, tk + 1, os⟩
    refine wpAny_bind (wpAny_newTuple ?_)
    have e4 : IsEnum (h3.push { cls := .type "tuple", data := .seq #[.int c tk, x] }) e it (c + 1) old := Heap.get?_push_of_some _ e3
    have hsz : h3.objs.size = h1.objs.size := by rw [s3.1, s2.1]
    have hel : e < h1.objs.size := Heap.lt_size he1
    generalize hh : h3.push { cls := .type "tuple", data := .seq #[.int c tk, x] } = h4 at e4
    have t4 : h4.get? h1.objs.size = some { cls := .type "tuple", data := .seq #[.int c tk, x] } := by rw [← hh, ← hsz]; exact Heap.get?_push_size _ rfl
    have z4 : h4.objs.size = h1.objs.size + 1 := by rw [← hh, Heap.size_push, hsz]
    have k4 : ∀ b o, b ≠ e → h1.get? b = some o → h4.get? b = some o := fun b o be hb => by
      rw [← hh]; exact Heap.get?_push_of_some _ (s3.extBut b o be (s2.extBut b o be hb))
    show wpAny _ _ (Builtin.SmallTypes.ownedTupleIsFree (.ref e) >>= _) _ _ ⟨h4, g, d, tk + 1, os⟩
    rw [hsz]
    clear hh e3 s3 e2 s2 hsz h3 h2
    refine wpAny_bind ?_
    unfold Builtin.SmallTypes.ownedTupleIsFree
    refine wpAny_bind (wpAny_field (s := ⟨h4, g, d, tk + 1, os⟩) e4 rfl (x := .none) rfl (wpAny_pure ?_))
    simp only [if_true]
    refine wpAny_bind (wpAny_rule ?_)
    refine wpAny_bind (wpAny_field (s := ⟨h4, g, d, tk + 1, os⟩) e4 rfl (x := old) rfl ?_)
    refine wpAny_bind (wpAny_setField_rec (s := ⟨h4, g, d, tk + 1, os⟩) e4 (by simp) fun h5 e5 s5 => ?_)
    replace s5 : Heap.SameBut e h4 h5 := s5
    replace e5 : IsEnum h5 e it (c + 1) x := e5
    show wpAny _ _ (Builtin.SmallTypes.ownedTupleHandOut (.ref e) (.ref h1.objs.size) >>= _) _ _ ⟨h5, g, d, tk + 1, os⟩
    refine wpAny_bind ?_
    unfold Builtin.SmallTypes.ownedTupleHandOut
    refine wpAny_bind (wpAny_setField_rec (s := ⟨h5, g, d, tk + 1, os⟩) e5 (by simp) fun h6 e6 s6 => ?_)
    replace s6 : Heap.SameBut e h5 h6 := s6
    replace e6 : IsEnumOut h6 e it (c + 1) x h1.objs.size := e6
    refine wpAny_setField_rec (s := ⟨h6, g, d, tk + 1, os⟩) e6 (by simp) fun h7 e7 s7 => ?_
    replace s7 : Heap.SameBut e h6 h7 := s7
    replace e7 : IsEnumOut h7 e it (c + 1) x h1.objs.size := e7
    refine wpAny_bind (wpAny_letGo (wpAny_pure ⟨_, rfl, wpAny_pure (hx h7 e7 ?_ ?_ ?_)⟩))
    · exact s7.extBut _ _ (Nat.ne_of_gt hel) (s6.extBut _ _ (Nat.ne_of_gt hel) (s5.extBut _ _ (Nat.ne_of_gt hel) t4))
    · show h7.objs.size = h1.objs.size + 1
      rw [s7.1, s6.1, s5.1, z4]
    · exact fun b o be hb => s7.extBut b o be (s6.extBut b o be (s5.extBut b o be (k4 b o be hb)))
  · obtain ⟨⟨a, o, rfl, ho, hc⟩, hx⟩ := hx
    refine wpAny_bind (wpAny_isInstance (T := "StopIteration") (b := true) ⟨o, ho, hc⟩ isSubtype_stop ?_)
    exact wpAny_pure hx
theorem nextZip {Q : Value → Shared → Prop} (hz : s.TypeIs (.ref z) "zip") (k : wpAny (model prog w) A.in1 (Builtin.«zip.__next__» ⟨[.ref z], []⟩) (fun fin s' => ∃ v, fin = .done (.ret v) ∧ Q v s') E s) :
    wpAny (model prog w) A (Builtin.SmallTypes.nextOf (.ref z)) Q E s := by
  unfold Builtin.SmallTypes.nextOf
  refine wpAny_bind (wpAny_callSpecial?_slot (name := Str.ofString "__next__") hz F.slot_zip_next
    (wpAny_call_entry F.slot_zip_next hz F.entry_zip_next (wpAny_mono k (fun fin s' h => ?_) fun _ _ h => h) (F.args_zip_next_1 _)))
  obtain ⟨v, e, q⟩ := h
  exact ⟨v, e, wpAny_pure q⟩
end
/-! ### as an iterator of a for -/
def ItezX (K : Frag) (k1 k2 : Bool) (a b : Addr) : It :=
  ⟨fun i H => ∃ (xs ys : List V) (x y : V), SqX K H k1 a xs ∧ SqX K H k2 b ys ∧ xs[i]? = some x ∧ ys[i]? = some y,
    fun i H v H' => ∃ T us x y T' us', v = .ref T' ∧ H T = none ∧ T' ≠ T ∧ H T' = none ∧ H' = upd (upd H T (pT us [x, y])) T' (pT us' [.int (i : Nat), .ref T]) ∧ (∀ xs, SqX K H k1 a xs → xs[i]? = some x) ∧ ∀ ys, SqX K H k2 b ys → ys[i]? = some y,
    fun i H => ∃ xs ys : List V, SqX K H k1 a xs ∧ SqX K H k2 b ys ∧ i ≤ xs.length ∧ i ≤ ys.length ∧ (i = xs.length ∨ i = ys.length)⟩
theorem fpOk_upd {X : Cx} {pins : List (Addr × Obj)} {H : Hp} {b T : Addr} {o : HO} (h : FpOk X pins H b) (n : b ≠ T) : FpOk X pins (upd H T o) b :=
  ⟨by rw [upd_ne n]; exact h.1, h.2⟩
set_option maxHeartbeats 1600000 in
theorem turn_enumZ {P : Program} {w : World} {K : Frag} {elts : List Expr} {kk : Nat} {tpos : Pos} (k1 k2 : Bool) {a b z TI TO i1 i2 e : Addr} (Z : ZipSep2 z TI TO i1 i2 [i1, a] [i2, b]) (na : a ≠ i1) (nb : b ≠ i2) (ez : e ≠ z) (eTI : e ≠ TI) (eTO : e ≠ TO) (e1 : e ≠ i1) (e2 : e ≠ i2) :
    Turn P w K (.Tuple elts kk tpos) (ItezX K k1 k2 a b) [e, z, TI, TO, i1, i2] e (fun i h => (∃ old, IsEnum h e z ((i : Nat) : Int) old) ∧ ZipE h z TI TO ∧ IsTupOf2 h TI (.ref i1) (.ref i2) ∧ (∃ x y, IsTupOf2 h TO x y) ∧ IterX k1 h i1 a i ∧ IterX k2 h i2 b i) where
  mem := by simp
  obj := fun i h st c hc => by
    obtain ⟨⟨old, he⟩, ⟨v, f, _, hz⟩, hTI, ⟨x, y, hTO⟩, h1, h2⟩ := st
    have e' : c = e ∨ c = z ∨ c = TI ∨ c = TO ∨ c = i1 ∨ c = i2 := by simpa using hc
    rcases e' with q | q | q | q | q | q
    · rw [q]; exact ⟨_, he, fun v q => nomatch q⟩
    · rw [q]; exact ⟨_, hz, fun v q => nomatch q⟩
    · rw [q]; exact ⟨_, hTI, fun v q => nomatch q⟩
    · rw [q]; exact ⟨_, hTO, fun v q => nomatch q⟩
    · rw [q]; exact iterX_obj h1
    · rw [q]; exact iterX_obj h2
  keep := fun i h h' st k => by
    obtain ⟨⟨old, he⟩, ⟨v, f, hv, hz⟩, hTI, ⟨x, y, hTO⟩, h1, h2⟩ := st
    exact ⟨⟨old, k e (by simp) _ he⟩, ⟨v, f, hv, k z (by simp) _ hz⟩, k TI (by simp) _ hTI, ⟨x, y, k TO (by simp) _ hTO⟩, iterX_at h1 fun o q => k i1 (by simp) o q, iterX_at h2 fun o q => k i2 (by simp) o q⟩
  item := by
    intro X hP hw hK hc i pins s σ H E I hf st hg
    subst hP hw hK
    obtain ⟨⟨old, he⟩, hz, hTI, ⟨x0, y0, hTO⟩, h1, h2⟩ := st
    obtain ⟨xs, ys, x, y, hqx, hqy, hx, hy⟩ := hg
    obtain ⟨its, rv, p, _⟩ := inv_seqX I hqx
    obtain ⟨its2, rv2, p2, _⟩ := inv_seqX I hqy
    obtain ⟨u, hu, ru⟩ := rv.get hx
    obtain ⟨u2, hu2, ru2⟩ := rv2.get hy
    have lt : ∀ c, c ∈ [e, z, TI, TO, i1, i2] → c < s.heap.objs.size := by
      intro c hc
      have e' : c = e ∨ c = z ∨ c = TI ∨ c = TO ∨ c = i1 ∨ c = i2 := by simpa using hc
      rcases e' with q | q | q | q | q | q
      · rw [q]; exact Heap.lt_size he
      · rw [q]; obtain ⟨v, f, _, hz⟩ := hz; exact Heap.lt_size hz
      · rw [q]; exact Heap.lt_size hTI
      · rw [q]; exact Heap.lt_size hTO
      · rw [q]; obtain ⟨_, q1, _⟩ := iterX_obj h1; exact Heap.lt_size q1
      · rw [q]; obtain ⟨_, q1, _⟩ := iterX_obj h2; exact Heap.lt_size q1
    have hzl : z < s.heap.objs.size := lt z (by simp)
    have n1 : i < its.toArray.size := by simpa using (List.getElem?_eq_some_iff.mp hu).1
    have n2 : i < its2.toArray.size := by simpa using (List.getElem?_eq_some_iff.mp hu2).1
    have tz : s.TypeIs (.ref z) "zip" := by obtain ⟨v, f, _, hz⟩ := hz; exact ⟨_, hz, rfl⟩
    refine enumE_item he (nextZip tz (zipE_item Z (drawsX (by exact I.ok.hd hc) k1 i1 a na its.toArray) (drawsX (by exact I.ok.hd hc) k2 i2 b nb its2.toArray) hz hTI hTO ⟨h1, p⟩ ⟨h2, p2⟩ n1 n2 fun x1 x2 h' tk q1 q2 z' TO' st1 st2 hT hsz hk => ⟨hk e _ ez eTO e1 e2 he, fun h3 e3 t3 s3 k3 => ⟨_, rfl, ?_⟩⟩))
    have eu : x1 = u := by
      have q : its[i]? = some x1 := by simpa using q1
      rw [hu] at q
      exact (Option.some.inj q).symm
    have eu2 : x2 = u2 := by
      have q : its2[i]? = some x2 := by simpa using q2
      rw [hu2] at q
      exact (Option.some.inj q).symm
    subst eu eu2
    have eT : (⟨h', s.gens, s.drawn, tk, s.os⟩ : Shared).heap.objs.size = s.heap.objs.size + 1 := hsz
    have new1 : ObjOk X.prog X.w (upd H s.heap.objs.size (pT [x1, x2] [x, y])) h' s.heap.objs.size (pT [x1, x2] [x, y]) :=
      pT_ok ⟨hT, by show 2 ≤ sizeLine; decide, [x1, x2], .cons ru (.cons ru2 .nil), ⟨_, hT, rfl, _, rfl⟩⟩
    have I1 : L2.Inv X pins σ (upd H s.heap.objs.size (pT [x1, x2] [x, y])) { s with heap := h', toks := tk } :=
      I.turnedNew (t' := tk) (ch := [z, TI, TO, i1, i2]) (fun c o hb q => hk c o (fun q' => hb (by simp [q'])) (fun q' => hb (by simp [q'])) (fun q' => hb (by simp [q'])) (fun q' => hb (by simp [q'])) q) (fun c hc => hf c (List.mem_cons_of_mem _ hc)) (Nat.le_refl _) new1
    have el : e < h'.objs.size := by rw [hsz]; exact Nat.lt_succ_of_lt (lt e (by simp))
    refine wpAny_letOwnedTupleGo_enum (s := { s with heap := h3, toks := tk + 1 }) e3 fun h4 e4 sb => ?_
    have hT2 : h4.get? h'.objs.size = some { cls := .type "tuple", data := .seq #[.int i tk, .ref s.heap.objs.size] } := (sb.2 _ (Nat.ne_of_gt el)).trans t3
    have new2 : ObjOk X.prog X.w (upd (upd H s.heap.objs.size (pT [x1, x2] [x, y])) h'.objs.size (pT [.int i tk, .ref s.heap.objs.size] [.int (i : Nat), .ref s.heap.objs.size])) h4 h'.objs.size (pT [.int i tk, .ref s.heap.objs.size] [.int (i : Nat), .ref s.heap.objs.size]) :=
      pT_ok ⟨hT2, by show 2 ≤ sizeLine; decide, [.int i tk, .ref s.heap.objs.size], .cons ⟨_, rfl⟩ (.cons rfl .nil), ⟨_, hT2, rfl, _, rfl⟩⟩
    have I2 : L2.Inv X pins σ (upd (upd H s.heap.objs.size (pT [x1, x2] [x, y])) h'.objs.size (pT [.int i tk, .ref s.heap.objs.size] [.int (i : Nat), .ref s.heap.objs.size])) { s with heap := h4, toks := tk + 1 } :=
      I1.turnedNew (t' := tk + 1) (ch := [e]) (fun c o hb q => (sb.2 c (fun q' => hb (by simp [q']))).trans (k3 c o (fun q' => hb (by simp [q'])) q)) (fun c hc => fpOk_upd (hf c (by rw [List.mem_singleton.mp hc]; simp)) (by rw [List.mem_singleton.mp hc]; exact Nat.ne_of_lt (lt e (by simp)))) (Nat.le_refl _) new2
    have ne : h'.objs.size ≠ s.heap.objs.size := by rw [hsz]; exact Nat.succ_ne_self _
    have up : ∀ c o, c ≠ e → h'.get? c = some o → h4.get? c = some o := fun c o q1 q2 => (sb.2 c q1).trans (k3 c o q1 q2)
    refine ⟨.ref h'.objs.size, _, I2, rfl, ⟨_, _, x, y, _, _, rfl, I.hok.fresh (Nat.le_refl _), ne, I.hok.fresh (by rw [hsz]; exact Nat.le_succ _), rfl, fun l hl => by rw [inv_seqX_inj I hl hqx]; exact hx, fun l hl => by rw [inv_seqX_inj I hl hqy]; exact hy⟩, ⟨⟨.ref s.heap.objs.size, ?_⟩, ?_, ?_, ?_, ?_, ?_⟩, fun c hcm => ?_⟩
    · have q : ((i + 1 : Nat) : Int) = (i : Int) + 1 := by omega
      rw [q]; exact e4
    · obtain ⟨v, f, hv, q⟩ := z'; exact ⟨v, f, hv, up _ _ (Ne.symm ez) q⟩
    · exact up _ _ (Ne.symm eTI) (hk _ _ Z.TIz Z.TITO Z.TIi1 Z.TIi2 hTI)
    · obtain ⟨y1, y2, q⟩ := TO'; exact ⟨y1, y2, up _ _ (Ne.symm eTO) q⟩
    · exact iterX_at st1.1 fun o q => up _ _ (Ne.symm e1) q
    · exact iterX_at st2.1 fun o q => up _ _ (Ne.symm e2) q
    · have q := lt c hcm
      rw [upd_ne (Nat.ne_of_lt (by rw [hsz]; exact Nat.lt_succ_of_lt q)), upd_ne (Nat.ne_of_lt q)]
      exact (hf c hcm).1
  done := by
    intro X hP hw hK hc i pins s σ H E I hf st hg
    subst hP hw hK
    obtain ⟨⟨old, he⟩, hz, hTI, ⟨x0, y0, hTO⟩, h1, h2⟩ := st
    obtain ⟨xs, ys, hqx, hqy, l1, l2, hend⟩ := hg
    obtain ⟨its, rv, p, _⟩ := inv_seqX I hqx
    obtain ⟨its2, rv2, p2, _⟩ := inv_seqX I hqy
    have q1 := rv.length
    have q2 := rv2.length
    have tz : s.TypeIs (.ref z) "zip" := by obtain ⟨v, f, _, hz⟩ := hz; exact ⟨_, hz, rfl⟩
    exact enumE_item he (nextZip tz (zipE_end Z (drawsX (by exact I.ok.hd hc) k1 i1 a na its.toArray) (drawsX (by exact I.ok.hd hc) k2 i2 b nb its2.toArray) hz hTI hTO ⟨h1, p⟩ ⟨h2, p2⟩ (by rw [List.size_toArray]; omega) (by rw [List.size_toArray]; omega) (by rw [List.size_toArray, List.size_toArray]; omega) fun h' tk x hk hx =>
      ⟨let ⟨o, q, c⟩ := hx; ⟨x, o, rfl, q, c⟩, rfl, I.turnedL (t' := tk) (ch := [e, z, TI, TO, i1, i2]) (fun c o hb q => hk c o (fun q' => hb (by simp [q'])) (fun q' => hb (by simp [q'])) (fun q' => hb (by simp [q'])) (fun q' => hb (by simp [q'])) q) hf⟩))
  self := fun A i s Q E st h => let ⟨⟨_, he⟩, _⟩ := st; wpAny_pyIter_enum he h
set_option maxHeartbeats 1000000 in
theorem meets_enum_newS {v : Value} {z : Addr} {H : Heap → Prop} (B : ∀ (prog : Program) (w : World) (A : Around) (E : Value → Shared → Prop) (s : Shared) (Q : Value → Shared → Prop), H s.heap → Q (.ref z) s → wpAny (model prog w) A (pyIter v) Q E s) :
    Meets (Builtin.«enumerate.__new__» ⟨[.type "enumerate", v], []⟩) (fun _ R s => H s.heap ∧
      R (.ok (.ret (.ref s.heap.objs.size))) { s with heap := s.heap.push { cls := .type "enumerate", data := .fields #[.none, .bool false, .ref z, rawInt 0, .none, .none] } }) :=
  .of_wp fun prog w A R s h => by
    obtain ⟨hp, g, d, tk, os⟩ := s; obtain ⟨h1, h⟩ := h
    have hsub := sub_enumerate
    have q1 : ∀ {A' : Around} {E : Value → Shared → Prop} {Q : Value → Shared → Prop}, Q (.ref z) ⟨hp, g, d, tk, os⟩ → wpAny (model prog w) A' (pyIter v) Q E ⟨hp, g, d, tk, os⟩ :=
      fun q => B prog w _ _ ⟨hp, g, d, tk, os⟩ _ h1 q
    wp_walk using q1
    refine wpAny_stack_any fun st => wpAny_pure ?_
    split
    · rename_i c _ _ _ _ _
      cases (c == Value.type "enumerate")
      · wp_walk using q1
        exact ⟨_, rfl, h⟩
      · wp_walk using q1
        exact ⟨_, rfl, h⟩
    · wp_walk using q1
      exact ⟨_, rfl, h⟩
theorem enum_beginsS {prog : Program} {w : World} {A : Around} {E : Value → Shared → Prop} {s : Shared} {z TI TO : Addr} {Q : Value → Shared → Prop} (hz : IsZip s.heap z TI TO .none)
    (h : ∀ h', IsEnum h' s.heap.objs.size z 0 .none → (∀ b o, s.heap.get? b = some o → h'.get? b = some o) → Q (.ref s.heap.objs.size) { s with heap := h' }) :
    wpAny (model prog w) A (call (.type "enumerate") [.ref z]) Q E s := by
  refine callType_new F.called_enumerate (by decide) (F.typeCall_enumerate_1 _) (F.newCall_enumerate_1 _) (fun obj => F.args_object_init_2 obj _) F.entry_enumerate_new
    (meets_enum_newS (v := .ref z) (z := z) (H := fun h => IsZip h z TI TO .none) fun prog w A E s Q hh q => wpAny_pyIter_zip hh q) ⟨hz, ?_⟩
  have he : IsEnum (s.heap.push { cls := .type "enumerate", data := .fields #[.none, .bool false, .ref z, rawInt 0, .none, .none] }) s.heap.objs.size z 0 .none := Heap.get?_push_size _ rfl
  exact ⟨⟨_, he, rfl⟩, h _ he fun b o x => Heap.get?_push_of_some _ x⟩
def iEnumZ (K : Frag) (ta : TA) : TI := fun σ H R => ta σ H fun vs H1 => ∃ k1 k2 a b xs ys, vs = [.ref a, .ref b] ∧ SqX K H1 k1 a xs ∧ SqX K H1 k2 b ys ∧ R (ItezX K k1 k2 a b) H1
theorem pi_enumZ {X : Cx} {e e2 : Expr} {ta : TA} {p p2 pos pos2 tpos : Pos} {elts : List Expr} {kk : Nat} (hg : Gl X "zip") (hm : X.mg "zip" = none) (hg2 : Gl X "enumerate") (hm2 : X.mg "enumerate" = none) (ha : PA X [e, e2] ta)
    (hs : starEach [e, e2] X.env = (false, eval e X.env) :: starEach [e2] X.env) (hpl : (backTo pos2 (starEach [e2] X.env)).any (·.1) = false) :
    PI X (.Tuple elts kk tpos) (.Call (.Name "enumerate" p) [.Call (.Name "zip" p2) [e, e2] [] pos2] [] pos) (iEnumZ X.K ta) := by
  refine ⟨fun pins s σ H R I h => ?_⟩
  refine Call_ (ld_blt I hg2 hm2 boot_enumerate (PyProof.Rows.callWith_type1 ?_ rfl rfl))
  show wpAny _ _ (spliced ((false, eval (.Call (.Name "zip" p2) [e, e2] [] pos2) X.env) :: backTo pos (starEach [] X.env))) _ _ s
  refine Calls.spliced_cons ?_
  refine Call_ (ld_blt I hg hm PyProof.Rows.boot_zip (PyProof.Rows.callWith_type1 (thn (ha.run pos2 pins s σ H _ I h) fun us s1 ⟨vs, H1, I1, r1, q1⟩ => ?_) hs hpl))
  obtain ⟨k1, k2, a, b, xs, ys, ex, hqx, hqy, q⟩ := q1
  subst ex
  cases r1 with
  | cons r rr =>
    cases rr with
    | cons r' rr =>
      cases rr
      cases r
      cases r'
      have hfr : ∀ c, s1.heap.objs.size ≤ c → FpOk X pins H1 c := fun c hle => I1.fpOk hle (I1.hok.fresh hle)
      obtain ⟨its, rv, p1, l1⟩ := inv_seqX I1 hqx
      obtain ⟨its2, rv2, p2', l2⟩ := inv_seqX I1 hqy
      refine zip_begins2 (beginsX k1 a its.toArray) (beginsX k2 b its2.toArray) p1 p2' fun h' hz hTI hTO h1 h2 hsz hk => ?_
      refine Calls.spliced_nil ?_
      refine enum_beginsS (s := { s1 with heap := h' }) hz fun h3 he hk3 => wpAny_pyIter_enum he ?_
      have I2 : L2.Inv X pins σ H1 { s1 with heap := h3 } := I1.kept (t' := s1.toks) fun b u x => hk3 b u (hk b u x)
      have hN : s1.heap.objs.size + 4 < h'.objs.size := by rw [hsz]; exact Nat.lt_succ_self _
      refine ⟨h'.objs.size, [h'.objs.size, s1.heap.objs.size + 4, s1.heap.objs.size + 2, s1.heap.objs.size + 3, s1.heap.objs.size, s1.heap.objs.size + 1], _, _, H1, rfl, I2, turn_enumZ k1 k2 (zip_sep2 (fp1 := [a]) (fp2 := [b]) ?_ ?_) (Nat.ne_of_lt l1) (Nat.ne_of_lt (Nat.lt_succ_of_lt l2)) ?_ ?_ ?_ ?_ ?_, ⟨⟨.none, he⟩, ZipE.of (hk3 _ _ hz), hk3 _ _ hTI, ⟨_, _, hk3 _ _ hTO⟩, iterX_new (hk3 _ _ h1), iterX_new (hk3 _ _ h2)⟩, fun c hcm => ?_, q⟩
      · intro c hc
        have : c = a := by simpa using hc
        rw [this]; exact l1
      · intro c hc
        have : c = b := by simpa using hc
        rw [this]; exact l2
      · rw [hsz]; show (_ + 5 : Nat) ≠ _ + 4; omega
      · rw [hsz]; show (_ + 5 : Nat) ≠ _ + 2; omega
      · rw [hsz]; show (_ + 5 : Nat) ≠ _ + 3; omega
      · rw [hsz]; show (s1.heap.objs.size + 5 : Nat) ≠ s1.heap.objs.size; omega
      · rw [hsz]; show (_ + 5 : Nat) ≠ _ + 1; omega
      · refine hfr c ?_
        have e' : c = h'.objs.size ∨ c = s1.heap.objs.size + 4 ∨ c = s1.heap.objs.size + 2 ∨ c = s1.heap.objs.size + 3 ∨ c = s1.heap.objs.size ∨ c = s1.heap.objs.size + 1 := by simpa using hcm
        rcases e' with z | z | z | z | z | z <;> (subst z; first | exact Nat.le_refl _ | exact Nat.le_add_right _ _ | (rw [hsz]; exact Nat.le_add_right _ _))
section
variable {X : Cx} {B : Base} {W : WX} {Γ Γ1 Γn : Ow} {o : OC} {e a b c : Expr} {fa fb fc fe : En → R D} {pos : Pos} {es : List Expr} {fs : En → R (List D)}
theorem it_enumZ {K : Frag} {k1 k2 : Bool} {a b : Addr} {vs ws : List V} {ds es : List D} {G Z : Hp} (l : vs.length ≤ sizeLine) (r : RDs K G vs ds) (r2 : RDs K G ws es) (hz : ∀ H, Same Z H → SqX K H k1 a vs) (hz2 : ∀ H, Same Z H → SqX K H k2 b ws) : ItOk K (ItezX K k1 k2 a b) (enumL (zipL ds es)) G Z := by
  have hl : (enumL (zipL ds es)).length = min ds.length es.length := by rw [enumL_len]; unfold zipL; rw [List.length_zipWith]
  have get : ∀ (i : Nat) (d : D), (enumL (zipL ds es))[i]? = some d → ∃ x y, ds[i]? = some x ∧ es[i]? = some y ∧ d = D.tup [.int i, D.tup [x, y]] := by
    intro i d h
    obtain ⟨p, h2, rfl⟩ := enumL_get h
    replace h := h2
    unfold zipL at h
    rw [List.getElem?_zipWith] at h
    cases q1 : ds[i]? with
    | none => rw [q1] at h; simp at h
    | some x =>
      cases q2 : es[i]? with
      | none => rw [q1, q2] at h; simp at h
      | some y =>
        rw [q1, q2] at h
        simp at h
        exact ⟨x, y, rfl, rfl, by rw [h]⟩
  refine ⟨by rw [hl]; have := r.length; omega, fun G1 H1 _ _ h => ⟨vs, ws, hz H1 h, hz2 H1 h, ?_, ?_, ?_⟩, fun i d G1 H1 e _ _ h => ?_, fun i d G1 H1 x H2 e g gh h y => ?_⟩
  · rw [hl, r.length]; omega
  · rw [hl, r2.length]; omega
  · rw [hl, r.length, r2.length]; omega
  · obtain ⟨x, y, ex, ey, _⟩ := get i d e
    obtain ⟨v, ev, _⟩ := r.get ex
    obtain ⟨v2, ev2, _⟩ := r2.get ey
    exact ⟨vs, ws, v, v2, hz H1 h, hz2 H1 h, ev, ev2⟩
  · obtain ⟨T, us, xv, yv, T', us', rfl, hT, nT, hT', rfl, y1, y2⟩ := y
    obtain ⟨xd, yd, ex, ey, rfl⟩ := get i d e
    obtain ⟨v, ev, rd⟩ := r.get ex
    obtain ⟨v2, ev2, rd2⟩ := r2.get ey
    have q1 := y1 vs (hz _ h)
    have q2 := y2 ws (hz2 _ h)
    rw [ev] at q1
    rw [ev2] at q2
    cases q1; cases q2
    obtain ⟨g2, rt⟩ := new_tup (K := K) (us := us) (vs := [xv, yv]) gh hT two_le (RDs.cons (rd.mono g) (.cons (rd2.mono g) .nil))
    obtain ⟨g3, rt2⟩ := new_tup (K := K) (us := us') (vs := [V.int (i : Nat), .ref T]) g2.gh (by rw [upd_ne nT]; exact hT') two_le (RDs.cons (.int (i : Nat)) (.cons rt .nil))
    exact ⟨_, g2.trans g3, rt2⟩
def eEnumZ (fs : En → R (List D)) : En → R (List D) := fun s => fs s >>= fun ds => match ds with
  | [d, e] => dItems d >>= fun xs => dItems e >>= fun ys => .ok (enumL (zipL xs ys))
  | _ => .stuck
theorem ei_enumZ {elts : List Expr} {kk : Nat} {tpos p p2 pos2 : Pos} (hs : noStar a = true) (hs2 : noStar b = true) (hg : Gl X "zip") (hm : X.mg "zip" = none) (hg2 : Gl X "enumerate") (hm2 : X.mg "enumerate" = none) (ha : EBs X B W Γ [a, b] fs) :
    EI X B W Γ (.Tuple elts kk tpos) (.Call (.Name "enumerate" p) [.Call (.Name "zip" p2) [a, b] [] pos2] [] pos) (eEnumZ fs) :=
  PI.imp (pi_enumZ hg hm hg2 hm2 ha (noStar_ok hs _ _) (noStars_any (by simp [hs2]))) fun σ H R ⟨s, G, rl, k⟩ => ⟨s, G, rl, k.bind.imp (fun ds _ k vs G1 H1 g1 rs => by
    cases rs with
    | nil => exact k.elim
    | cons r rr =>
      cases rr with
      | nil => exact k.elim
      | cons r2 rr =>
        cases rr with
        | cons _ _ => exact k.elim
        | nil =>
          obtain ⟨xs, e, k⟩ := (show Done (dItems _ >>= fun xs => dItems _ >>= fun ys => Hr.R.ok (enumL (zipL xs ys))) _ _ from k).bind.ok (dItems_noexc _)
          obtain ⟨ys, e2, k⟩ := k.bind.ok (dItems_noexc _)
          obtain ⟨k1, a', vs', rfl, hq, l, rs'⟩ := seqX_of g1.gh r e
          obtain ⟨k2, b', ws', rfl, hq2, l2, rs2'⟩ := seqX_of g1.gh r2 e2
          exact ⟨k1, k2, a', b', vs', ws', rfl, hq _ (.refl _), hq2 _ (.refl _), k _ G1 H1 g1 (it_enumZ l rs' rs2' hq hq2)⟩) fun _ z => z⟩
theorem eif_enumZ {elts : List Expr} {kk : Nat} {tpos p p2 pos2 : Pos} (hs : noStar a = true) (hs2 : noStar b = true) (hg : Gl X "zip") (hm : X.mg "zip" = none) (hg2 : Gl X "enumerate") (hm2 : X.mg "enumerate" = none) (ha : EVs X B W Γ [a, b] fs) :
    EIf X B W Γ (.Tuple elts kk tpos) (.Call (.Name "enumerate" p) [.Call (.Name "zip" p2) [a, b] [] pos2] [] pos) (eEnumZ fs) :=
  PI.imp (pi_enumZ hg hm hg2 hm2 ha (noStar_ok hs _ _) (noStars_any (by simp [hs2]))) fun σ H R ⟨s, G, rl, k⟩ => ⟨s, G, rl, k.bind.imp (fun ds _ k vs G1 H1 g1 rs => by
    cases rs with
    | nil => exact k.elim
    | cons r rr =>
      cases rr with
      | nil => exact k.elim
      | cons r2 rr =>
        cases rr with
        | cons _ _ => exact k.elim
        | nil =>
          obtain ⟨xs, e, k⟩ := (show Done (dItems _ >>= fun xs => dItems _ >>= fun ys => Hr.R.ok (enumL (zipL xs ys))) _ _ from k).bind.ok (dItems_noexc _)
          obtain ⟨ys, e2, k⟩ := k.bind.ok (dItems_noexc _)
          obtain ⟨k1, a', vs', rfl, hq, l, rs'⟩ := seqX_fz r e
          obtain ⟨k2, b', ws', rfl, hq2, l2, rs2'⟩ := seqX_fz r2 e2
          exact ⟨k1, k2, a', b', vs', ws', rfl, hq _ g1.gh, hq2 _ g1.gh, k _ G1 H1 g1 (it_enumZ l rs' rs2' hq hq2)⟩) fun _ z => z⟩
end
end Hr

end
section
/-! HrO: sorted -/
namespace Hr
open PySem PySem.Spec L2
/-- a ahead of the first that is not less -/
def insD {α : Type} (le : α → α → Bool) (a : α) : List α → List α
  | [] => [a]
  | b :: l => if le a b then a :: b :: l else b :: insD le a l
def isort {α : Type} (le : α → α → Bool) : List α → List α
  | [] => []
  | a :: l => insD le a (isort le l)
theorem insD_mid {α : Type} {le : α → α → Bool} {a : α} : ∀ {l1 l2 : List α}, (∀ b ∈ l1, (!le a b) = true) → (∀ b ∈ l2, le a b = true) → insD le a (l1 ++ l2) = l1 ++ a :: l2
  | [], [], _, _ => rfl
  | [], b :: l2, _, h => by
    show (if le a b then a :: b :: l2 else _) = _
    rw [if_pos (h b (List.mem_cons_self ..))]
    rfl
  | b :: l1, l2, h, h2 => by
    have hb : le a b = false := by simpa using h b (List.mem_cons_self ..)
    show (if le a b then _ else b :: insD le a (l1 ++ l2)) = _
    rw [if_neg (by rw [hb]; exact fun z => nomatch z), insD_mid (fun c m => h c (List.mem_cons_of_mem _ m)) h2]
    rfl
theorem msort_eq {α : Type} {le : α → α → Bool} (tr : ∀ a b c : α, le a b = true → le b c = true → le a c = true) (to : ∀ a b : α, (le a b || le b a) = true) : ∀ l : List α, l.mergeSort le = isort le l
  | [] => by simp [isort]
  | a :: l => by
    obtain ⟨l1, l2, e1, e2, h⟩ := List.mergeSort_cons tr to a l
    have hs := List.pairwise_mergeSort tr to (a :: l)
    rw [e1] at hs
    rw [e1]
    show _ = insD le a (isort le l)
    rw [← msort_eq tr to l, e2, insD_mid h]
    intro b hb
    have := (List.pairwise_append.mp hs).2.1
    exact (List.pairwise_cons.mp this).1 b hb
def leD (a b : D) : Bool := !PySem.W.dataLt b.py a.py
theorem leD_eq : PySem.W.dataLe false D.py = leD := rfl
theorem leD_tr (a b c : D) (h1 : leD a b = true) (h2 : leD b c = true) : leD a c = true := (PySem.W.sortLe_total (PyProof.Rows.listOrd PyProof.Rows.itemOrd) false (fun d : D => PySem.W.keyToks d.py)).trans a b c h1 h2
theorem leD_to (a b : D) : (leD a b || leD b a) = true := Bool.or_eq_true_iff.mpr ((PySem.W.sortLe_total (PyProof.Rows.listOrd PyProof.Rows.itemOrd) false (fun d : D => PySem.W.keyToks d.py)).total a b)
/-- what may be sorted -/
def sortOk (ds : List D) : Bool := D.pls ds && (ds.all fun a => ds.all fun b => PySem.W.alike a.py b.py) && ((ds.all fun d => match d with | .tup (_ :: _) => true | _ => false) || (ds.all fun d => match d with | .int _ => true | .str _ => true | .lst _ => true | _ => false)) && (ds.all fun d => decide (d.dep ≤ 60))
def dSort : D → R D
  | .lst ds => if sortOk ds then .ok (.lst (isort leD ds)) else .stuck
  | _ => .stuck
theorem dSort_noexc (x : D) (c : Str) : dSort x ≠ .exc c := by
  unfold dSort
  split
  · split <;> exact fun z => nomatch z
  · exact fun z => nomatch z
def rSortedD (K : Frag) : List V → Hp → VK → Prop := fun vs H Q => ∃ (a : Addr) (xs : List V) (ds : List D), vs = [V.ref a] ∧ SqL K H a xs ∧ xs.length = ds.length ∧ (∀ p ∈ xs.zip ds, Dp K H p.1 p.2.py) ∧ sortOk ds = true ∧
  ∀ (zs : List (V × D)) (p : Addr), zs.Perm (xs.zip ds) → zs.map (·.2) = isort leD ds → H p = none → Q (.ref p) (upd H p (.lst (zs.map (·.1))))
theorem eachIs_zip {X : Cx} {pins : List (Addr × Obj)} {σ : St} {H : Hp} {s : Shared} (I : Inv X pins σ H s) : ∀ {xs : List V} {us : List Value} {ds : List D}, Vals xs us → xs.length = ds.length → (∀ p ∈ xs.zip ds, Dp X.K H p.1 p.2.py) →
    PySem.W.EachIs (fun (u : Value) (p : V × D) => RelV p.1 u) us (xs.zip ds) ∧ PySem.W.EachIs (fun (u : Value) (p : V × D) => ∃ as, Reads s.heap u p.2.py as) us (xs.zip ds)
  | _, _, [], .nil, _, _ => ⟨.nil, .nil⟩
  | _, _, d :: ds, .cons r t, e, h => by
    obtain ⟨h1, h2⟩ := eachIs_zip I t (Nat.succ.inj e) fun p m => h p (List.mem_cons_of_mem _ m)
    exact ⟨.cons r h1, .cons (Dp.reads I _ _ _ (h (_, d) (List.mem_cons_self ..)) r) h2⟩
  | _, _, d :: ds, .nil, e, _ => by cases e
  | _, _, [], .cons _ _, e, _ => by cases e
theorem vals_each : ∀ {us : List Value} {zs : List (V × D)}, PySem.W.EachIs (fun (u : Value) (p : V × D) => RelV p.1 u) us zs → Vals (zs.map (·.1)) us
  | _, _, .nil => .nil
  | _, _, .cons r t => .cons r (vals_each t)
theorem cr_sortedD {X : Cx} (hu : X.A.units + 65 < cLine) : CallR X (.builtin "sorted") (rSortedD X.K) := by
  intro pins s σ H vs us Q I r h
  obtain ⟨a, xs, ds, rfl, hs, he, hd, ok, q⟩ := h
  obtain ⟨its, rv, hl, hz⟩ := I.list hs
  rw [Vals.ref1 r]
  obtain ⟨e1, e2⟩ := eachIs_zip I rv he hd
  unfold sortOk at ok
  obtain ⟨ok, o4⟩ := and2 ok
  obtain ⟨ok, o3⟩ := and2 ok
  obtain ⟨o1, o2⟩ := and2 ok
  have hsnd : (xs.zip ds).map (·.2) = ds := List.map_snd_zip (by omega)
  have hfst : (xs.zip ds).map (·.1) = xs := List.map_fst_zip (by omega)
  have mem2 : ∀ p ∈ xs.zip ds, p.2 ∈ ds := fun p m => by rw [← hsnd]; exact List.mem_map.mpr ⟨p, m, rfl⟩
  have hal : PySem.W.AllAlike ((xs.zip ds).map fun p : V × D => p.2.py) := by
    intro d hd' d' hd''
    obtain ⟨p, m, rfl⟩ := List.mem_map.mp hd'
    obtain ⟨p', m', rfl⟩ := List.mem_map.mp hd''
    exact List.all_eq_true.mp (List.all_eq_true.mp o2 _ (mem2 p m)) _ (mem2 p' m')
  have hk : PySem.W.Sortable ((xs.zip ds).map fun p : V × D => p.2.py) := by
    rcases Bool.or_eq_true_iff.mp o3 with o | o
    · left
      intro d hd'
      obtain ⟨p, m, rfl⟩ := List.mem_map.mp hd'
      have := List.all_eq_true.mp o _ (mem2 p m)
      generalize p.2 = d at this
      split at this
      · exact ⟨_, _, rfl⟩
      · cases this
    · right
      intro d hd'
      obtain ⟨p, m, rfl⟩ := List.mem_map.mp hd'
      have := List.all_eq_true.mp o _ (mem2 p m)
      generalize p.2 = d at this
      split at this
      · exact And.intro (fun z => PyData.noConfusion z) (fun _ z => PyData.noConfusion z)
      · exact And.intro (fun z => PyData.noConfusion z) (fun _ z => PyData.noConfusion z)
      · exact And.intro (fun z => PyData.noConfusion z) (fun _ z => PyData.noConfusion z)
      · cases this
  have hlen : (xs.zip ds).length = xs.length := by rw [← List.length_map (f := (·.1)), hfst]
  refine PySem.W.sorted_data (enc := fun p : V × D => p.2.py) hl.isList e1 e2 hal hk (by rw [hlen]; exact hz) (fun p m => ?_) fun out h1 h2 => ?_
  · have := of_decide_eq_true (List.all_eq_true.mp o4 _ (mem2 p m))
    show X.A.units + 2 + p.2.dep < cLine
    omega
  · obtain ⟨ep, he'⟩ := PyProof.Rows.sortedAll_at s.heap its out.toArray
    have v2 := vals_each h2
    have hms : ((xs.zip ds).mergeSort (PySem.W.dataLe false fun p : V × D => p.2.py)).map (·.2) = isort leD ds := by
      rw [List.map_mergeSort (r := PySem.W.dataLe false fun p : V × D => p.2.py) (s := leD) (f := fun p : V × D => p.2) (fun _ _ _ _ => rfl), hsnd, msort_eq leD_tr leD_to]
    refine ⟨.ref _, upd H (s.heap.objs.size + 1) (.lst _), I.laid (t' := s.toks) (fun _ _ => PyProof.Rows.sortedAll_old) (Nat.le_succ _) ⟨?_, out, ep, v2, he'⟩, rfl, q _ _ (List.mergeSort_perm ..) hms (I.hok.fresh (Nat.le_succ _))⟩
    rw [List.length_map, List.length_mergeSort, hlen]
    exact hz
theorem RDs.zip {K : Frag} {G : Hp} : ∀ {vs : List V} {ds : List D}, RDs K G vs ds → ∀ p ∈ vs.zip ds, RD K G p.1 p.2
  | _, _, .nil, p, m => by simp at m
  | _, _, .cons a r, p, m => by
    rcases List.mem_cons.mp m with e | m
    · rw [e]; exact a
    · exact RDs.zip r p m
theorem RDs.ofZip {K : Frag} {G : Hp} : ∀ {zs : List (V × D)}, (∀ p ∈ zs, RD K G p.1 p.2) → RDs K G (zs.map (·.1)) (zs.map (·.2))
  | [], _ => .nil
  | z :: zs, h => .cons (h z (List.mem_cons_self ..)) (RDs.ofZip fun p m => h p (List.mem_cons_of_mem _ m))
theorem pls_mem : ∀ {ds : List D}, D.pls ds = true → ∀ d ∈ ds, d.pl = true
  | [], _, d, m => by cases m
  | e :: ds, h, d, m => by
    obtain ⟨h1, h2⟩ := and2 (show (D.pl e && D.pls ds) = true from h)
    rcases List.mem_cons.mp m with q | m
    · rw [q]; exact h1
    · exact pls_mem h2 d m
theorem cd_sort {K : Frag} : CallD K (rSortedD K) (on1 dSort) (.own .fz) := calld1 fun x dx d G H Q e r hg k => by
  unfold dSort at hg
  split at hg
  · rename_i ds
    split at hg
    · rename_i ok
      cases hg
      obtain ⟨a, vs, rfl, s, l, rs⟩ := r.lst e
      have hz := rs.zip
      have hp : D.pls ds = true := by
        have ok' := ok
        unfold sortOk at ok'
        exact (and2 (and2 (and2 ok').1).1).1
      have hsnd : (vs.zip ds).map (·.2) = ds := List.map_snd_zip (by rw [rs.length]; exact Nat.le_refl _)
      refine ⟨a, vs, ds, rfl, .inl (.inl s), rs.length, fun p m => ?_, ok, fun zs p pm e2 hp' => ?_⟩
      · exact RD.dp ((hz p m).mono e) (pls_mem hp _ (by rw [← hsnd]; exact List.mem_map.mpr ⟨p, m, rfl⟩))
      · have rz := RDs.ofZip (zs := zs) fun p m => hz p (pm.mem_iff.mp m)
        rw [e2] at rz
        have hl : (zs.map (·.1)).length ≤ sizeLine := by
          rw [List.length_map, pm.length_eq, List.length_zip, rs.length, Nat.min_self, ← rs.length]
          exact l
        obtain ⟨g, n⟩ := new_own (K := K) e hp' hl rz
        exact k _ _ _ g n
    · cases hg
  · cases hg
end Hr

end
section
/-! HrTry: try: .. except C as e: kept = e -/
namespace Hr
open PySem PySem.Spec L2 PyProof.Rows
theorem xo_ok {P : Program} {w : World} {H : Hp} {h : Heap} {a : Addr} {cls : Value} {oe : Obj} {vs : Array Value} (e : h.get? a = some oe) (z : Zc cls none oe) (d : oe.data = .fields vs) : ObjOk P w H h a (XO cls a) :=
  ⟨⟨oe, vs, e, z, d⟩, ⟨oe, e⟩, fun _ _ ⟨o, v, q, r⟩ k => ⟨o, v, k o q, r⟩⟩
theorem Inv.adopt {X : Cx} {pins : List (Addr × Obj)} {σ : St} {H : Hp} {s : Shared} {a : Addr} {o : HO} (I : Inv X pins σ H s) (ha : H a = none) (h0 : X.s_0.heap.get? a = none) (pn : ∀ p ∈ X.pn ++ pins, p.1 ≠ a) (nl : a ≠ X.env.locals)
    (nc : ∀ x c, X.env.cells.lookup x = some c → c ≠ a) (new : ObjOk X.prog X.w (upd H a o) s.heap a o) : Inv X pins σ (upd H a o) s := by
  have b := I.base
  refine ⟨I.ok, I.os, I.bare, ⟨b.keep, b.slot, fun c u e n x => ?_, b.there, fun c xs e => ?_, fun c u xs e => ?_, fun c ps e => ?_⟩, I.loc, I.cell, ?_, fun x c e => ?_, fun p hp => ?_, I.hok.laidN (fun _ _ z => z) ha new, I.len⟩
  · rw [upd_ne (fun z => by rw [z, h0] at e; cases e)]; exact b.free c u e n x
  · have := b.tups c xs e
    rw [upd_ne (ne_of_none this ha)]; exact this
  · have := b.frzs c u xs e
    rw [upd_ne (ne_of_none this ha)]; exact this
  · obtain ⟨m, q⟩ := b.tbls c ps e
    exact ⟨m, by rw [upd_ne (ne_of_none q ha)]; exact q⟩
  · rw [upd_ne (Ne.symm nl)]; exact I.free
  · rw [upd_ne (nc x c e)]; exact I.freeC x c e
  · obtain ⟨h1, h2, h3⟩ := I.pin p hp
    exact ⟨h1, by rw [upd_ne (pn p hp)]; exact h2, h3⟩
/-- what the clause wishes of an exception of the body: slot i is e's, slot j kept's -/
def wKeep (K : Frag) (c : Value) (i j : Nat) (Wout : WX) (Dn : Ends) : WX := fun cls d σ H =>
  ∃ b, d = none ∧ PySem.W.exmOne K cls c = some b ∧ (b = true → ∀ a, H a = none → Dn.nx (((σ.set i (some (.ref a))).set j (some (.ref a))).set i none) (upd H a (XO cls a))) ∧ (b = false → Wout cls none σ H)
section
variable {X : Cx} {x n y : Str} {c : Value} {i j : Nat} {body : List Stmt} {np pos pos' p1 p2 p3 : Pos} {tb : WX → TS} {Wout : WX}
theorem ps_try_keep (hs : X.stack = X.env :: X.outer) (hf : X.env.frame = some X.env.locals) (hN : X.N.Nodup) (hi : X.N[i]? = some n) (hln : X.env.kindOf n = some .local) (hj : X.N[j]? = some y) (hlj : X.env.kindOf y = some .local) (hd1 : (n == ("__debug__" : Str)) = false) (hd2 : (n == ("__classdict__" : Str)) = false) (hex : X.ex = [])
    (hc : Names X x c) (tk : Takes X Wout)
    (hb : ∀ (W : WX) (pn : List (Addr × Obj)) (xe : Value → Shared → Prop), Takes (X.tr pn xe) W → PassesOwn (model X.prog X.w) X.A X.env xe → PSs (X.tr pn xe) body (tb W)) :
    PS X (.Try body [.ExceptHandler (some (.Name x np)) (some n) [.Assign [.Name y p1] (.Name n p2) p3] pos'] [] [] pos) (fun Dn σ H => tb (wKeep X.K c i j Wout Dn) Dn σ H) := by
  refine ⟨fun pins s σ H Dn I h => ?_⟩
  have ok := I.ok
  have hfr : X.A.frames = some (X.env :: X.outer) := by rw [ok.frames, hs]
  have hloc : Loc X.env.scope n := .inl hln
  refine wpAny_Try_except ?_
  refine wpAny_mono ((hb (wKeep X.K c i j Wout Dn) (X.pn ++ pins) (fun e s₁ => wpAny (model X.prog X.w) X.A (noteFrame e X.env) (fun _ s₂ => wpAny (model X.prog X.w) X.A (setFlight e none) (fun _ s₃ =>
    wpAny (model X.prog X.w) X.A (handleBy e X.env [.ExceptHandler (some (.Name x np)) (some n) [.Assign [.Name y p1] (.Name n p2) p3] pos']) (SP X pins Dn) X.xe s₃) X.xe s₂) X.xe s₁) (fun u s' xx => ?_) PassesOwn.looking).run [] s σ H Dn (I.toTry _) h) (fun f s1 hsp => ?_) (fun e s1 he => he)
  · obtain ⟨a, B, sI, pins', σ', H', cls, d, rfl, J', nb, up, sky, na, os, ag, b, rfl, hb1, hyes, hno⟩ := xx
    have J : Inv X pins σ' H' sI := J'.ofTry ok
    have sky' : Sky B (X.env :: X.outer) a (Zc cls none) X.env.locals s'.heap := by rw [← hs]; exact sky
    show wpAny (model X.prog X.w) X.A (noteFrame (.ref a) X.env) _ _ _
    refine Sky.land Zc.steady hfr hf sky' fun h3 fl3 up3 => ?_
    have J3 : Inv X pins σ' H' { s' with heap := h3 } := J.landed nb fl3.1 (up.trans up3) os ag
    obtain ⟨oe3, vs3, he3, hz3, hd3⟩ := fl3.there
    have nfr : a ∉ frs (X.env :: X.outer) := fun hm => by
      obtain ⟨_, o', e', hnf⟩ := fl3.2.2.1.mem hm
      rw [he3] at e'; cases e'
      exact hnf _ hd3
    have nL : a ≠ X.env.locals := fun z => nfr (List.mem_filterMap.mpr ⟨X.env, List.mem_cons_self, by rw [hf, z]⟩)
    have nF : a ∉ X.fs := fun hm => by
      obtain ⟨e, he, q⟩ := List.mem_filterMap.mp hm
      exact nfr (List.mem_filterMap.mpr ⟨e, List.mem_cons_of_mem _ he, q⟩)
    have nfs : a ∉ frs X.stack := by rw [hs]; exact nfr
    have sn : sI.heap.get? a = none := by
      cases q : sI.heap.get? a with
      | none => rfl
      | some o => have := nb a o q nfs; rw [fl3.2.1] at this; cases this
    have h0 : X.s_0.heap.get? a = none := by
      cases q : X.s_0.heap.get? a with
      | none => rfl
      | some o =>
        obtain ⟨o', e'⟩ := J.base.there a o q (by rw [hex]; exact List.not_mem_nil)
        rw [sn] at e'; cases e'
    have S3 := J3.suite he3 hd3 na nL nF
    refine wpAny_handleBy_cons (codeAny_handlers_test ?_) (by intro q; cases q)
    have LT : PySem.W.Looks (model X.prog X.w) h3 (typeOf (.ref a)) cls := fun A Q E s k q => wpAny_typeOf_ref (k _ _ he3) (by rw [hz3.1]; exact q)
    have LM := PySem.W.exm_one (M := model X.prog X.w) (J3.kIn) LT hb1
    have test : ∀ {Q : Value → Shared → Prop} {E : Value → Shared → Prop}, Q c { s' with heap := h3 } → wpAny (model X.prog X.w) (X.A.mark (some (.ref a))) (eval (.Name x np) X.env) Q E { s' with heap := h3 } := fun {Q E} q => by
      obtain ⟨hg, hdbg, hm | ⟨hm, hv, hnn⟩⟩ := hc
      · exact ld_glob (X := X.suite a ((a, oe3) :: (X.pn ++ pins))) S3 hg hm q hdbg
      · exact ld_blt (X := X.suite a ((a, oe3) :: (X.pn ++ pins))) S3 hg hm hv q hnn hdbg
    refine test (LM.here ?_)
    cases b with
    | true =>
      refine codeAny_handlers_suite_as ?_
      refine HandSPX.lands_againZ fl3 fun h4 fl4 up4 => ?_
      have J4 : Inv X pins σ' H' { s' with heap := h4 } := J.landed nb fl4.1 ((up.trans up3).trans up4) os ag
      obtain ⟨oe4, vs4, he4, hz4, hd4⟩ := fl4.there
      have S4 := J4.suite he4 hd4 na nL nF
      refine store_ok (X := X.suite a ((a, oe4) :: (X.pn ++ pins))) (v := .ref a) S4 hN hi hloc rfl (fun s5 S5 => ?_) (.inr hln)
      have hsu : PSs (X.suite a ((a, oe4) :: (X.pn ++ pins))) [.Assign [.Name y p1] (.Name n p2) p3] (tSeq (tAsg (tVar i) (gName j)) tNext) :=
        pss_cons (ps_asg (pe_var hi (.inl hln) hd1 hd2) (pg_name (X := X.suite a ((a, oe4) :: (X.pn ++ pins))) hN hj (.inl hlj) (.inr hlj)) rfl rfl rfl) pss_nil
      have hil : i < σ'.length := by rw [J.len]; exact (List.getElem?_eq_some_iff.mp hi).1
      refine wpAny_mono (hsu.run [] s5 _ H' { nx := fun σ6 H6 => σ6 = (σ'.set i (some (.ref a))).set j (some (.ref a)) ∧ H6 = H', rt := fun _ _ => False, bk := fun _ _ => False, ct := fun _ _ => False } S5 ⟨.ref a, by rw [List.getElem?_set_self hil], rfl, rfl⟩) (fun f s6 hsp => ?_) (fun _ _ z => False.elim z)
      cases f with
      | next =>
        obtain ⟨σ6, H6, S6, e1, e2⟩ := hsp
        subst e1 e2
        obtain ⟨hg6, hn6, _⟩ := S6.pin (a, oe4) (List.mem_append_left _ List.mem_cons_self)
        have U6 : Inv X pins ((σ'.set i (some (.ref a))).set j (some (.ref a))) H6 s6 := S6.unsuite ok
        refine gone_ok (Hr.Inv.adopt U6 (o := XO cls a) hn6 h0 (fun p hp z => ?_) nL (fun x c e z => ?_) (xo_ok hg6 hz4 hd4)) hN hi hln fun s7 J7 => ⟨_, _, J7, hyes rfl a na⟩
        · have := (J.pin p hp).1
          rw [z, sn] at this; cases this
        · obtain ⟨v, hv⟩ := U6.cell x c e
          rw [z] at hv
          obtain ⟨o, ho, hd⟩ := hv
          rw [hg6] at ho; cases ho
          rw [hd4] at hd; cases hd
      | brk => obtain ⟨_, _, _, z⟩ := hsp; exact z.elim
      | cont => obtain ⟨_, _, _, z⟩ := hsp; exact z.elim
      | ret u => obtain ⟨_, _, _, _, _, z⟩ := hsp; exact z.elim
    | false =>
      show wpAny _ X.A (handleBy (.ref a) X.env []) _ _ _
      refine wpAny_handleBy_nil ?_
      obtain ⟨k1, k2, k3, oe, vs, T, oT, ts', he, hz, hd, h1, hr⟩ := id fl3
      unfold PySem.passOn
      refine wpAny_bind (wpAny_field he hd h1 ?_)
      rw [if_neg (show ¬ ((Value.ref T == Value.none) = true) from by simp)]
      have fin : wpAny (model X.prog X.w) X.A (setFlight (.ref a) X.env.frame) (fun _ s4 => wpAny (model X.prog X.w) X.A (throw (.ref a) : Sem Flow) (SP X pins Dn) X.xe s4) X.xe { s' with heap := h3 } := by
        rw [hf]
        refine HandSPX.setFlight_upZ fl3 fun h4 hh4 up4 => wpAny_throw (tk _ _ ?_)
        exact ⟨a, B, sI, pins, σ', H', cls, none, rfl, J, nb, (up.trans up3).trans up4, .inr (.inr (by rw [hs]; exact hh4)), na, os, ag, hno rfl⟩
      first
        | exact wpAny_bind (wpAny_pure (wpAny_bind fin))
        | exact wpAny_bind fin
  · cases f with
    | next =>
      obtain ⟨σ', H', J', q⟩ := hsp
      exact wpAny_execs_nil ⟨σ', H', J'.ofTry ok, q⟩
    | brk =>
      obtain ⟨σ', H', J', q⟩ := hsp
      exact ⟨σ', H', J'.ofTry ok, q⟩
    | cont =>
      obtain ⟨σ', H', J', q⟩ := hsp
      exact ⟨σ', H', J'.ofTry ok, q⟩
    | ret u =>
      obtain ⟨v, σ', H', J', r, q⟩ := hsp
      exact ⟨v, σ', H', J'.ofTry ok, r, q⟩
variable {B : Base} {W : WX} {Γ Γn : Ow} {o : OC} {f : En → Out}
/-- the class c takes what tb tells -/
def sTry (tb : List (Str × Bool)) (i j : Nat) (f : En → Out) : En → Out := fun s => match f s with
  | .ex c s' => (match tb.lookup c with
    | some true => if j < s'.length then .nx (((s'.set i none).set j (some (.exc c))).set i none) else .stuck
    | some false => .ex c s'
    | none => .stuck)
  | r => r
theorem oty_same {Γ : Ow} : ∀ j : Nat, oty Γ j = oty Γ j := fun _ => rfl
theorem sv_try {cn : Str} {tbl : List (Str × Bool)} (hs : X.stack = X.env :: X.outer) (hf : X.env.frame = some X.env.locals) (hN : X.N.Nodup) (hi : X.N[i]? = some n) (hln : X.env.kindOf n = some .local) (hj : X.N[j]? = some y) (hlj : X.env.kindOf y = some .local) (hd1 : (n == ("__debug__" : Str)) = false) (hd2 : (n == ("__classdict__" : Str)) = false) (hex : X.ex = [])
    (hc : Names X x (clsV X.K cn)) (tk : Takes X W) (ht : ∀ c b, tbl.lookup c = some b → PySem.W.exmOne X.K (clsV X.K c) (clsV X.K cn) = some b) (oj : oty Γn j = .fz) (le : leO Γn o.x)
    (hb : ∀ (W : WX) (pn : List (Addr × Obj)) (xe : Value → Shared → Prop), Takes (X.tr pn xe) W → PassesOwn (model X.prog X.w) X.A X.env xe → SVs (X.tr pn xe) B W Γ Γn { o with x := Γn } body f) :
    SV X B W Γ Γn o (.Try body [.ExceptHandler (some (.Name x np)) (some n) [.Assign [.Name y p1] (.Name n p2) p3] pos'] [] [] pos) (sTry tbl i j f) := by
  refine PS.imp (ps_try_keep (tb := fun W => tS X.K B W Γ Γn { o with x := Γn } f) hs hf hN hi hln hj hlj hd1 hd2 hex hc tk hb) fun Dn σ H ⟨s, G, rl, k⟩ => ⟨s, G, rl, ?_⟩
  unfold sTry at k
  cases q : f s with
  | nx s' => rw [q] at k; exact k
  | bk s' => rw [q] at k; exact k
  | ct s' => rw [q] at k; exact k
  | rt d => rw [q] at k; exact k
  | stuck => rw [q] at k; exact k
  | ex c s' =>
    rw [q] at k
    dsimp only at k
    intro σ' G' H' g r
    cases hl : tbl.lookup c with
    | none => rw [hl] at k; exact k.elim
    | some b =>
      rw [hl] at k
      refine ⟨b, rfl, ht c b hl, fun eb a na => ?_, fun eb => ?_⟩
      · subst eb
        dsimp only at k
        by_cases hlen : j < s'.length
        · rw [if_pos hlen] at k
          have ga : G' a = none := r.GH.free na
          have gr : Grow G' H' (upd G' a (XO (clsV X.K c) a)) (upd H' a (XO (clsV X.K c) a)) := Grow.new r.GH na
          have r1 : Rel X.K B Γn (s'.set i none) (upd G' a (XO (clsV X.K c) a)) (σ'.set i (some (.ref a))) (upd H' a (XO (clsV X.K c) a)) := by
            refine (r.grow gr).forget (by rw [List.length_set, List.length_set]; exact r.len) fun m d e => ?_
            rcases getElem?_set_cases e with ⟨rfl, e'⟩ | ⟨ne, e'⟩
            · cases e'
            · exact ⟨e', fun v hv => by rw [List.getElem?_set_ne (Ne.symm ne)]; exact hv⟩
          have r2 := (Tmp.of_fz r1 (v := .ref a) (d := .exc c) (.exc upd_same)).set (Γ' := Γn) j oj (fun _ _ => rfl) (by rw [List.length_set, ← r.len]; exact hlen)
          have r3 : Rel X.K B Γn (((s'.set i none).set j (some (.exc c))).set i none) (upd G' a (XO (clsV X.K c) a)) (((σ'.set i (some (.ref a))).set j (some (.ref a))).set i none) (upd H' a (XO (clsV X.K c) a)) := by
            refine r2.forget (by simp only [List.length_set]; exact r.len) fun m d e => ?_
            rcases getElem?_set_cases e with ⟨rfl, e'⟩ | ⟨ne, e'⟩
            · cases e'
            · exact ⟨e', fun v hv => by rw [List.getElem?_set_ne (Ne.symm ne)]; exact hv⟩
          exact k _ _ _ (g.trans gr.g) r3
        · rw [if_neg hlen] at k; exact k.elim
      · subst eb
        obtain ⟨G2, g2, r2⟩ := r.weaken le
        exact k σ' G2 H' (g.trans g2) r2
end
end Hr

end
section
/-! HrP: isinstance of a caught exception, list.count -/
namespace Hr
open PySem PySem.Spec L2 PyProof.Rows
section
variable {X : Cx} {B : Base} {W : WX} {Γ : Ow} {e a b c : Expr} {fa fb fc : En → R D} {pos : Pos} {es : List Expr} {fs : En → R (List D)}
def rIsX (K : Frag) : List V → Hp → VK → Prop := fun xs H Q => ∃ (a C : Addr) (c : V) (cv : Value) (b : Bool), xs = [.ref a, c] ∧ H a = some (XO (.ref C) a) ∧ (∀ u, RelV c u → u = cv) ∧ ExcC K C ∧ PySem.W.kitOne K (.ref C) cv = some b ∧ Q (.bl b) H
theorem cr_isX : CallR X (.builtin "isinstance") (rIsX X.K) := by
  intro pins s σ H xs us Q I r h
  obtain ⟨a, C, c, cv, b, rfl, ha, hcv, E, e, q⟩ := h
  cases r with
  | cons rx rr =>
    cases rr with
    | cons rt rr =>
      cases rr
      cases rx
      have ec := hcv _ rt
      subst ec
      obtain ⟨oe, vs, hget, hz, hv⟩ := (I.hok a _ ha).1
      have J : PySem.W.InstAt s.heap a oe C none := by
        obtain ⟨oc, od, oda, osl⟩ := oe
        obtain ⟨h1, h2⟩ := hz
        dsimp only at h1 h2 hv
        subst h1 h2 hv
        exact ⟨hget, rfl, rfl, trivial⟩
      exact PySem.W.kia_one (PySem.W.handS_kitx_exc E.hg E.hk E.hs E.hd E.ha E.hn E.ht E.hm) I.kIn J e (fun z => nomatch z) fun tk => ⟨.bl b, H, I.kept (t' := tk) fun _ _ z => z, rfl, q⟩
def isX (tb : List (Str × Bool)) : D → R Bool
  | .exc c => R.of (tb.lookup c)
  | _ => .stuck
def eIse (tb : List (Str × Bool)) (fa : En → R D) : En → R D := fun s => fa s >>= fun d => isX tb d >>= fun b => .ok (.bl b)
theorem isX_noexc (tb : List (Str × Bool)) (x : D) (c : Str) : isX tb x ≠ .exc c := by unfold isX; split <;> first | exact of_noexc _ _ | exact fun z => nomatch z
theorem RB.exc {K : Frag} {G H : Hp} {v : V} {c : Str} (e : Same G H) (h : RB K G H v (.exc c)) : ∃ a, v = .ref a ∧ H a = some (XO (clsV K c) a) := by
  cases h with
  | fz r => cases r with
    | exc s => exact ⟨_, rfl, e _ _ s⟩
theorem ev_ise {tb : List (Str × Bool)} {p : Pos} {v : V} {cv : Value} (hg : Gl X "isinstance") (hm : X.mg "isinstance" = none) (hs : noStar a = true) (hT : PE X b (tC v)) (hcv : ∀ u, RelV v u → u = cv) (hs2 : noStar b = true)
    (ht : ∀ c r, tb.lookup c = some r → ExcC X.K (He.ga X.K c) ∧ PySem.W.kitOne X.K (clsV X.K c) cv = some r) (ha : EB X B W Γ a fa) :
    EV X B W Γ (.Call (.Name "isinstance" p) [a, b] [] pos) (eIse tb fa) := by
  have pa : PA X [a, b] (tCons (tBo X.K B W Γ fa) (tCons (tC v) tNil)) := pa_cons ha (pa_cons hT pa_nil (noStar_ok hs2 _ _)) (noStar_ok hs _ _)
  refine PE.imp (pe_callB cr_isX hg hm (by decide +kernel) pa (by decide) (by decide) (noStar_ok hs _ _) (noStars_any (by simp [hs2]))) fun σ H Q ⟨s, G, rl, k⟩ => ⟨s, G, rl, k.bind.imp (fun d _ k x G1 H1 g1 r => ?_) fun _ z => z⟩
  obtain ⟨bb, e, k1⟩ := k.bind.ok (isX_noexc _ _)
  clear k
  cases d with
  | exc c =>
    have e : R.of (tb.lookup c) = .ok bb := e
    cases q : tb.lookup c with
    | none => rw [q] at e; cases e
    | some r' =>
      rw [q] at e
      cases e
      obtain ⟨a', rfl, hH⟩ := r.exc g1.gh
      obtain ⟨h1, h2⟩ := ht c _ q
      exact ⟨a', _, v, cv, _, rfl, hH, hcv, h1, h2, k1 _ G1 H1 g1 (.bl _)⟩
  | _ => cases e
/-! ### list.count -/
def rCountD (K : Frag) : V → List V → Hp → VK → Prop := fun x xs H Q => ∃ (a : Addr) (y : V) (d : PyData) (ds : List PyData), x = V.ref a ∧ xs = [y] ∧ Dp K H (V.ref a) (.list ds) ∧ Dp K H y d ∧
  SeqAt.shaped (.list ds) = true ∧ SeqAt.shaped d = true ∧ Q (.int (ds.countP fun z => PyData.eqv z d : Nat)) H
theorem mt_countD (hu : X.A.units + 65 < cLine) : MtR X "list.count" (rCountD X.K) := by
  intro pins s σ H x xs v us Q I rx rxs h
  obtain ⟨a, y, d, ds, rfl, rfl, hl, hy, sl, sd, q⟩ := h
  cases rx
  cases rxs with
  | cons ry rt =>
    rename_i uy ut
    cases rt
    obtain ⟨bs, r1⟩ := Dp.reads I d y uy hy ry
    have hxs : PyData.canLayAll0 ds = true := SeqAt.canLay_of_shaped sl
    have hroom : X.A.units + 1 + min (PyData.depthAll ds) d.depth < cLine := room_in_shaped sd hu
    cases hl with
    | lst hs ha =>
      obtain ⟨its, rv, ⟨⟨cls, dd, data, sls⟩, n, ho, hc, hdn, hdt⟩, hlen⟩ := I.list hs
      simp only at hc hdt
      subst hc hdt
      obtain ⟨as, h4⟩ := Dp.readsAll I ds _ its ha rv
      have hmap : its.map (SeqAt.readOf s.heap) = ds := SeqAt.readsAll_map ds its as hxs h4
      refine call_meets PySem.F.slot_list_count ⟨_, ho, rfl⟩ PySem.F.entry_list_count (PySem.F.args_list_count_2 _ _)
        (SeqAt.list_countAt a its.toArray n dd sls uy (fun u => PyData.eqv (SeqAt.readOf s.heap u) d)) ⟨ho, SeqAt.items_eqAt (vs := its.toArray) (show ReadsAll s.heap its.toArray.toList ds as from h4) r1 hxs (SeqAt.canLay_of_shaped sd) hroom, ?_⟩
      have ec : its.toArray.toList.countP (fun u => PyData.eqv (SeqAt.readOf s.heap u) d) = ds.countP fun z => PyData.eqv z d := by
        rw [← hmap, List.countP_map]; rfl
      refine ⟨.int ((ds.countP fun z => PyData.eqv z d : Nat) : Int), H, I.tok _, ⟨s.toks, ?_⟩, q⟩
      show Value.int ((its.toArray.toList.countP (fun u => PyData.eqv (SeqAt.readOf s.heap u) d) : Nat) : Int) s.toks = _
      rw [ec]
def dCount (ds : List D) (y : D) : R D := if y.pl && D.pls ds && decide (y.dep ≤ 60) && decide (PyData.depthAll (D.pys ds) ≤ 60) then .ok (.int (ds.countP fun z => D.eqv z y : Nat)) else .stuck
theorem dCount_noexc (x : List D) (y : D) (c : Str) : dCount x y ≠ .exc c := by
  unfold dCount
  split <;> exact fun z => nomatch z
def eCount (fa fb : En → R D) : En → R D := fun s => fa s >>= fun x => asL x >>= fun ds => fb s >>= fun y => dCount ds y
theorem ev_count {apos cpos : Pos} (hu : X.A.units + 65 < cLine) (hn : notSuper a = true) (hl : (apos.endLine == cpos.line) = true) (hs : noStar b = true) (ha : EB X B W Γ a fa) (hb : EB X B W Γ b fb) : EV X B W Γ (.Call (.Attribute a "count" apos) [b] [] cpos) (eCount fa fb) := by
  have pa : PA X [b] (tCons (tBo X.K B W Γ fb) tNil) := pa_cons hb pa_nil (noStar_ok hs _ _)
  refine PE.imp (pe_bm PySem.F.plainAttrs_list PySem.F.slot_list_count PySem.F.type_list_count (mt_countD hu) ha pa (base_ok2 hn _ _ _) (few_ok (by simp [hs]) (by simp)) hl (noStar_ok hs _ _) rfl) fun σ H Q ⟨s, G, rl, k⟩ => ⟨s, G, rl, k.bind.imp (fun dx _ k x G1 H1 g1 rx => ?_) fun _ z => z⟩
  obtain ⟨ds, e, k2⟩ := k.bind.ok (asL_noexc _)
  clear k
  cases asL_ok e
  obtain ⟨a', vs, rfl, s1, l, rs⟩ := rx.lst g1.gh
  refine ⟨.inl ⟨rfl, vs, .inl (.inl s1)⟩, s, G1, rl.grow g1, k2.bind.imp (fun dy _ k y G2 H2 g2 ry => ?_) fun _ z => XW.grow g1 z⟩
  obtain ⟨d, e2, k⟩ := k.ok (dCount_noexc _ _)
  unfold dCount at e2
  split at e2
  · rename_i hc
    cases e2
    simp only [Bool.and_eq_true, decide_eq_true_eq] at hc
    obtain ⟨⟨⟨c1, c2⟩, c3⟩, c4⟩ := hc
    have rx' := (rx.grow g2).now g2.gh
    have ry' := ry.now g2.gh
    have ec : (D.pys ds).countP (fun z => PyData.eqv z dy.py) = ds.countP fun z => D.eqv z dy := by
      rw [pys_map, List.countP_map]; rfl
    refine ⟨a', y, dy.py, D.pys ds, rfl, rfl, rx'.dp c2, ry'.dp c1, ?_, shaped_of ry' (by omega), ?_⟩
    · refine shaped_of (d := .lst ds) rx' ?_
      show PyData.depthAll (D.pys ds) + 1 ≤ 64
      omega
    · rw [ec]
      exact k _ G2 H2 (g1.trans g2) (.int _)
  · cases e2
/-! ### join -/
def strsD : List D → Option (List Str)
  | [] => some []
  | .str b :: ds => (strsD ds).map fun bs => b :: bs
  | _ :: _ => none
theorem strsD_vals {K : Frag} {G : Hp} : ∀ {vs : List V} {ds : List D} {bs : List Str}, RDs K G vs ds → strsD ds = some bs → vs = bs.map V.str ∧ ∀ b ∈ bs, PyData.strOk b = true
  | _, [], _, .nil, h => by cases h; exact ⟨rfl, fun _ m => by cases m⟩
  | _, d :: ds, _, .cons a r, h => by
    cases d with
    | str b =>
      have h : (strsD ds).map (fun bs => b :: bs) = some _ := h
      cases q : strsD ds with
      | none => rw [q] at h; cases h
      | some bs =>
        rw [q] at h; cases h
        obtain ⟨e, o, _⟩ := a.str_inv
        obtain ⟨e2, o2⟩ := strsD_vals r q
        refine ⟨by rw [e, e2]; rfl, fun c m => ?_⟩
        rcases List.mem_cons.mp m with z | z
        · rw [z]; exact o
        · exact o2 c z
    | _ => cases h
theorem strOk_join {sep : Str} (hs : PyData.strOk sep = true) : ∀ {ys : List Str}, (∀ b ∈ ys, PyData.strOk b = true) → PyData.strOk (Str.join sep ys) = true
  | [], _ => by unfold Str.join; decide +kernel
  | [x], h => h x (List.mem_cons_self ..)
  | x :: y :: ys, h => strOk_append (strOk_append (h x (List.mem_cons_self ..)) hs) (strOk_join hs fun b m => h b (List.mem_cons_of_mem _ m))
def dJoin : D → D → R D
  | .str a, .lst ds => R.of ((strsD ds).bind fun ys => if (ys.map (·.length)).sum + ys.length * a.length ≤ 16777216 then some (.str (Str.join a ys)) else none)
  | _, _ => .stuck
theorem dJoin_noexc (x y : D) (c : Str) : dJoin x y ≠ .exc c := by unfold dJoin; split <;> first | exact of_noexc _ _ | exact fun z => nomatch z
def isStr : D → R Str
  | .str a => .ok a
  | _ => .stuck
theorem isStr_noexc (x : D) (c : Str) : isStr x ≠ .exc c := by unfold isStr; split <;> exact fun z => nomatch z
theorem isStr_ok {x : D} {a : Str} (h : isStr x = .ok a) : x = .str a := by
  unfold isStr at h
  split at h
  · cases h; rfl
  · cases h
/-- a text's method of one argument -/
def eM1 (g : D → D → R D) (fa fb : En → R D) : En → R D := fun s => fa s >>= fun x => isStr x >>= fun a => fb s >>= fun y => g (.str a) y
theorem m1_read {r : V → List V → Hp → VK → Prop} {g : D → D → R D} (hx : ∀ x y c, g x y ≠ .exc c)
    (hr : ∀ (a : Str) (y : V) (dy d : D) (G H : Hp) (Q : VK), Same G H → PyData.strOk a = true → a.length ≤ sizeLine → RB X.K G H y dy → g (.str a) dy = .ok d → (∀ v G' H', Grow G H G' H' → RD X.K G' v d → Q v H') → r (.str a) [y] H Q) :
    ∀ σ H Q, tV X.K B W Γ (eM1 g fa fb) σ H Q → tM1 r (tBo X.K B W Γ fa) (tBo X.K B W Γ fb) σ H Q := fun σ H Q ⟨s, G, rl, k⟩ => ⟨s, G, rl, k.bind.imp (fun dx _ k x G1 H1 g1 rx => by
    obtain ⟨a, e, k2⟩ := k.bind.ok (isStr_noexc _)
    cases isStr_ok e
    obtain ⟨rfl, o1, l1⟩ := rx.str
    refine ⟨⟨a, rfl⟩, s, G1, rl.grow g1, k2.bind.imp (fun dy _ k3 y G2 H2 g2 ry => ?_) fun _ z => XW.grow g1 z⟩
    obtain ⟨d, e2, k4⟩ := k3.ok (hx _ _)
    exact hr a y dy d G2 H2 Q g2.gh o1 l1 ry e2 fun v G3 H3 g3 rd => k4 v G3 H3 ((g1.trans g2).trans g3) rd) fun _ z => z⟩
theorem ev_join {apos cpos : Pos} (hn : notSuper a = true) (hl : (apos.endLine == cpos.line) = true) (hs : noStar b = true) (ha : EB X B W Γ a fa) (hb : EB X B W Γ b fb) : EV X B W Γ (.Call (.Attribute a "join" apos) [b] [] cpos) (eM1 dJoin fa fb) :=
  PE.imp (pe_join ha hb (noStar_ok hs _ _) (base_ok2 hn _ _ _) hl) (m1_read dJoin_noexc fun a y dy d G H Q e o1 l1 ry h k => by
    cases dy with
    | lst ds =>
      have h : R.of ((strsD ds).bind fun ys => if (ys.map (·.length)).sum + ys.length * a.length ≤ 16777216 then some (D.str (Str.join a ys)) else none) = .ok d := h
      cases q : strsD ds with
      | none => rw [q] at h; cases h
      | some ys =>
        rw [q] at h
        have h : R.of (if (ys.map (·.length)).sum + ys.length * a.length ≤ 16777216 then some (D.str (Str.join a ys)) else none) = .ok d := h
        by_cases hz : (ys.map (·.length)).sum + ys.length * a.length ≤ 16777216
        · rw [if_pos hz] at h
          cases h
          obtain ⟨p, vs, rfl, sq, l, rs⟩ := ry.lst e
          obtain ⟨rfl, os⟩ := strsD_vals rs q
          refine ⟨a, p, ys, rfl, rfl, .inl (.inl (.inl sq)), hz, ?_⟩
          have ej : Txt.join a ys = Str.join a ys := StrLaws.glued_eq_join a ys
          rw [ej]
          exact k _ G H (.refl e) (.str _ (strOk_join o1 os) (Nat.le_trans (StrLaws.join_length_le a ys) (by rw [sizeLine_eq]; exact hz)))
        · rw [if_neg hz] at h; cases h
    | _ => cases h)
end
end Hr

end
section
/-! HrS: len(set(xs)), xs a list of ints and texts -/
namespace Hr
open PySem PySem.Spec L2 PyProof.Rows
def hasK (acc : List Key) (k : Key) : Bool := acc.any fun q => decide (k = q)
def onceK (acc : List Key) (k : Key) : List Key := if hasK acc k = true then acc else acc ++ [k]
/-- each once, where it is met first -/
def metK (acc : List Key) : List Key → List Key
  | [] => acc
  | k :: ks => metK (onceK acc k) ks
theorem metK_snoc (k : Key) : ∀ (ks acc : List Key), metK acc (ks ++ [k]) = onceK (metK acc ks) k
  | [], _ => rfl
  | q :: ks, acc => metK_snoc k ks _
theorem onceK_len (acc : List Key) (k : Key) : (onceK acc k).length = if hasK acc k = true then acc.length else acc.length + 1 := by
  unfold onceK
  split <;> simp
theorem metK_len : ∀ (ks acc : List Key), (metK acc ks).length ≤ acc.length + ks.length
  | [], acc => Nat.le_refl _
  | q :: ks, acc => by
    have h1 := metK_len ks (onceK acc q)
    have h2 := onceK_len acc q
    rw [metK, List.length_cons]
    split at h2 <;> omega
theorem onceK_has (acc : List Key) (k j : Key) : hasK (onceK acc k) j = (hasK acc j || decide (j = k)) := by
  unfold onceK
  by_cases h : hasK acc k = true
  · rw [if_pos h]
    by_cases e : j = k
    · subst e; rw [h]; simp
    · simp [e]
  · rw [if_neg h]
    simp [hasK]
section
variable {prog : Program} {w : World} {A : Around} {I S : Addr} {fp wr : List Addr} {G : Array GenState → Array GenState → Prop} {n : Nat} {P : Nat → Value → Prop} {St : Nat → Shared → Prop} {R : Result → Shared → Prop}
/-- the set's loop over keys -/
theorem keys_loop (W : WalksS prog w A.in1 I fp wr G n P St) (hS : S ∉ fp) {ks : List Key} (hn : n = ks.length) (hv : ∀ i v, P i v → ∃ k, ks[i]? = some k ∧ RelV (kV k) v) (hb : n + 1 < scanBound) :
    ∀ (m i : Nat) (s : Shared), i + m = n → St i s → s.heap.SetOf (mixKind prog w) S (fun k => hasK (metK [] (ks.take i)) k) (metK [] (ks.take i)).length →
      (∀ s', Moved (S :: wr) G s s' → s'.heap.SetOf (mixKind prog w) S (fun k => hasK (metK [] ks) k) (metK [] ks).length → R (.ok (.ret .none)) s') →
      codeAny (model prog w) A (.builtin "set.update.loop" ⟨[.ref S, .ref I], []⟩) R s
  | 0, i, s, hi, st, so, k => by
    have e : i = n := by omega
    subst e
    have nw : S ∉ wr := fun z => hS (W.sub _ z)
    refine codeAny_builtin PyProof.Rows.F.entry_set_update_loop ?_
    rw [Around.under_plainId PyProof.Rows.F.plain_set_update_loop _]
    show wpAny _ A.in1 (pyNext (.ref I) >>= _) _ _ s
    refine wpAny_bind (W.done s _ _ st fun s1 mv => ?_)
    show wpAny _ A.in1 (ret Value.none) _ _ s1
    refine wpAny_pure (k s1 (mv.mono fun b z => List.mem_cons_of_mem _ z) ?_)
    rw [hn, List.take_length] at so
    obtain ⟨o, es, ep, t, ho, q⟩ := so
    exact ⟨o, es, ep, t, mv.heap S _ nw ho, q⟩
  | m + 1, i, s, hi, st, so, k => by
    have nw : S ∉ wr := fun z => hS (W.sub _ z)
    refine codeAny_builtin PyProof.Rows.F.entry_set_update_loop ?_
    rw [Around.under_plainId PyProof.Rows.F.plain_set_update_loop _]
    show wpAny _ A.in1 (pyNext (.ref I) >>= _) _ _ s
    refine wpAny_bind (W.item i s _ _ (by omega) st fun v s1 pv st1 mv => ?_)
    obtain ⟨q, hq, rv⟩ := hv i v pv
    have so1 : s1.heap.SetOf (mixKind prog w) S (fun k => hasK (metK [] (ks.take i)) k) (metK [] (ks.take i)).length := by
      obtain ⟨o, es, ep, t, ho, z⟩ := so
      exact ⟨o, es, ep, t, mv.heap S _ nw ho, z⟩
    show wpAny _ A.in1 (holding [v] (setAdd S v) >>= _) _ _ s1
    refine wpAny_bind (wpAny_holding ?_)
    unfold setAdd
    refine wpAny_holding (wpAny_bind ((mixKind prog w).pyHash (k := q) (kV_is rv) ?_))
    have room : (metK [] (ks.take i)).length + 1 < scanBound := by
      have := metK_len (ks.take i) []
      rw [List.length_take] at this
      simp at this
      omega
    refine wpAny_setAddHashed_of (knd := mixKind prog w) (s := { s1 with toks := s1.toks + 1 }) (kV_is rv) (key_scan rv) so1 room fun h' sb so2 => ?_
    have et : ks.take (i + 1) = ks.take i ++ [q] := by rw [List.take_succ, hq]; rfl
    have so3 : h'.SetOf (mixKind prog w) S (fun k => hasK (metK [] (ks.take (i + 1))) k) (metK [] (ks.take (i + 1))).length :=
      by
        have ef : (fun k => hasK (metK [] (ks.take (i + 1))) k) = fun j => hasK (metK [] (ks.take i)) j || decide (j = q) := funext fun j => by rw [et, metK_snoc, onceK_has]
        have el : (metK [] (ks.take (i + 1))).length = if hasK (metK [] (ks.take i)) q = true then (metK [] (ks.take i)).length else (metK [] (ks.take i)).length + 1 := by rw [et, metK_snoc, onceK_len]
        rw [ef, el]
        exact so2
    refine wpAny_pure ⟨plainId_quiet PyProof.Rows.F.plain_set_update_loop _, keys_loop W hS hn hv hb m (i + 1) _ (by omega) (W.frame _ s1 _ _ st1 (Nat.le_succ _) fun b mb o e => ?_) so3 fun s2 mv2 so4 => ?_⟩
    · rw [sb.2 b fun z => hS (by rw [← z]; exact mb)]; exact e
    · refine k s2 (Moved.trans W.gtrans ((mv.mono fun b z => List.mem_cons_of_mem _ z).then_heap (Nat.le_succ _) fun b o nb e => ?_) mv2) so4
      rw [sb.2 b fun z => nb (by rw [z]; exact List.mem_cons_self ..)]; exact e
end
section
variable {prog : Program} {w : World} {A : Around} {E : Value → Shared → Prop} {s : Shared}
abbrev freshSet (led : Bool) : Obj := { cls := .type "set", dict := none, data := .set #[] 0 (.fresh 0 0 led) }
theorem keysAt {xs : List V} {us : List Value} {ks : List Key} (r : Vals xs us) (e : xs = ks.map kV) (i : Nat) (v : Value) (h : us[i]? = some v) : ∃ k, ks[i]? = some k ∧ RelV (kV k) v := by
  subst e
  have hi := (List.getElem?_eq_some_iff.mp h).1
  have hl := r.length
  rw [List.length_map] at hl
  have hk : ks[i]? = some (ks[i]'(by omega)) := List.getElem?_eq_getElem (by omega)
  obtain ⟨u, eu, ru⟩ := r.get (i := i) (x := kV (ks[i]'(by omega))) (by rw [List.getElem?_map, hk]; rfl)
  rw [h] at eu
  cases eu
  exact ⟨_, hk, ru⟩
set_option maxHeartbeats 3200000 in
/-- set(xs), xs a list of keys -/
theorem call_setK {l : Addr} {items : Array Value} {ks : List Key} {Q : Value → Shared → Prop} (hh : A.handled = none) (hl : s.heap.IsList l items) (hn : items.size = ks.length) (hv : ∀ (i : Nat) (v : Value), items[i]? = some v → ∃ k, ks[i]? = some k ∧ RelV (kV k) v) (hb : items.size + 1 < scanBound)
    (h : ∀ (h' : Heap) (tk : Nat), h'.SetOf (mixKind prog w) s.heap.objs.size (fun k => hasK (metK [] ks) k) (metK [] ks).length → (∀ b o, b < s.heap.objs.size → s.heap.get? b = some o → h'.get? b = some o) → Q (.ref s.heap.objs.size) { s with heap := h', toks := tk }) :
    wpAny (model prog w) A (call (.type "set") [.ref l]) Q E s := by
  obtain ⟨c0, tl0, hmro⟩ := PySem.F.called_set.mro
  have mk := PySem.F.called_set.made
  have sb := PySem.F.called_set.sub
  refine wpAny_call (codeAny_of_tree ?_)
  show wpAny _ _ (callAny (.type "set") _) _ _ _
  refine wpAny_pure ⟨Code.quiet_builtin _ (by decide +kernel), codeAny_builtin PySem.F.entry_type_call ?_⟩
  rw [Around.under_plain (weight_type_call_type "set" [.ref l] []) rfl]
  have t1 := PySem.F.called_set.notType
  have t2 := PySem.F.called_set.canCreate
  have t3 := PySem.F.typeCall_set_1 (.ref l)
  repeat (any_goals (first | assumption | wp_step))
  refine codeAny_mono (code_set_new_1 (.ref l) (E := E) (Q₁ := fun ob s1 => ∃ led, ob = .ref s.heap.objs.size ∧ s1 = { s with heap := s.heap.push (freshSet led) }) fun led => ⟨led, rfl, rfl⟩) fun r1 s1 hr => ?_
  cases r1 with
  | error e => exact hr
  | ok fl =>
    cases fl with
    | ret ob =>
      obtain ⟨led, rfl, rfl⟩ := hr
      have gS : (s.heap.push (freshSet led)).get? s.heap.objs.size = some (freshSet led) := Heap.get?_push_size _ rfl
      have tS : Shared.TypeIs { s with heap := s.heap.push (freshSet led) } (.ref s.heap.objs.size) "set" := ⟨_, gS, rfl⟩
      have i1 := PySem.F.called_set.init.lookup
      have i2 := PySem.F.called_set.init.bind (.ref s.heap.objs.size)
      repeat (any_goals (first | assumption | wp_step))
      refine codeAny_mono (codeAny_call_builtin (R := wants (fun r s2 => r = .none ∧ ∃ h' tk, s2 = { s with heap := h', toks := tk } ∧ h'.SetOf (mixKind prog w) s.heap.objs.size (fun k => hasK (metK [] ks) k) (metK [] ks).length ∧
          (∀ b o, b < s.heap.objs.size → s.heap.get? b = some o → h'.get? b = some o)) E) PySem.F.called_set.init.plain PySem.F.entry_set_init (check_set_init_1 tS ?_)) fun r2 s2 hr2 => ?_
      · obtain ⟨⟨oc, od, oda, osl⟩, hol, hcl, nl, hdl⟩ := hl
        simp only at hcl hdl
        subst hcl hdl
        have hol2 : (s.heap.push (freshSet led)).get? l = some { cls := .type "list", dict := od, data := .seq items nl, slots := osl } := Heap.get?_push_of_some _ hol
        have n1 := PySem.F.sub_list_set
        have n2 := PySem.F.sub_list_frozenset
        have n3 : (Value.type "list" == Value.type "dict") = false := by decide
        have hl2 : (s.heap.push (freshSet led)).IsList l items := ⟨_, hol2, rfl, nl, rfl⟩
        unfold Builtin.«set.__init__» noKeywords Builtin.Frozenset.updateFrom
        generalize hPI : pyIter = PI
        wp_walk
        subst hPI
        refine wpAny_pyIter_list hl2 (wpAny_bind (wpAny_runValue ?_))
        have llt : l < s.heap.objs.size := Heap.lt_size hol
        have hh3 : A.in1.in1.in1.handled = none := by simp [hh]
        have zs : (s.heap.push (freshSet led)).objs.size = s.heap.objs.size + 1 := Heap.size_push ..
        have neI : l ≠ (s.heap.push (freshSet led)).objs.size := by rw [zs]; exact Nat.ne_of_lt (Nat.lt_succ_of_lt llt)
        have nS : s.heap.objs.size ∉ [(s.heap.push (freshSet led)).objs.size, l] := by
          intro z
          rcases List.mem_cons.mp z with e | z
          · rw [zs] at e; exact absurd e (Nat.ne_of_lt (Nat.lt_succ_self _))
          · exact absurd (List.mem_singleton.mp z) (Nat.ne_of_gt llt)
        refine keys_loop ((Walks.list hh3 _ l neI items).toS) nS hn hv hb items.size 0 _ (by omega) ⟨⟨_, Heap.get?_push_size _ rfl, rfl, rfl⟩, (hl2.push _)⟩ ?s0 ?fin
        case s0 =>
          have g2 : ((s.heap.push (freshSet led)).push { cls := .type "list_iterator", data := .fields #[.ref l, .int 0 0] }).get? s.heap.objs.size = some (freshSet led) := Heap.get?_push_of_some _ gS
          exact ⟨_, #[], 0, _, g2, ⟨rfl, rfl, rfl⟩, rfl, (fun e he => by simp at he), (fun k => by simp [metK, hasK]), (by decide), (by rfl), rfl⟩
        case fin =>
          rintro ⟨h', g', d', tk', os'⟩ mv so
          have eg : g' = s.gens := mv.gens
          have ed : d' = s.drawn := mv.drawn
          have eo : os' = s.os := mv.os
          subst eg ed eo
          show wpAny _ _ _ _ _ _
          refine wpAny_pure ?_
          show wpAny _ _ (ret Value.none) _ _ _
          refine wpAny_pure ⟨rfl, h', tk', rfl, so, fun b o lt e => mv.heap b o (fun z => ?_) (Heap.get?_push_of_some _ (Heap.get?_push_of_some _ e))⟩
          rcases List.mem_cons.mp z with q | z
          · rw [q] at lt; exact absurd lt (Nat.lt_irrefl _)
          · rw [List.mem_singleton.mp z, zs] at lt
            exact absurd lt (Nat.not_lt.mpr (Nat.le_succ _))
      · cases r2 with
        | error e => exact hr2
        | ok fl2 =>
          cases fl2 with
          | ret r =>
            obtain ⟨rfl, h', tk, rfl, so, kp⟩ := hr2
            repeat (any_goals (first | assumption | wp_step))
            exact h _ _ so kp
          | _ => exact hr2.elim
    | _ => exact hr.elim
end
end Hr

end
section
/-! HrT: a set of tuples of ints and texts: how one is added, and the table behind -/
namespace Hr
open PySem PySem.Spec L2 PyProof.Rows
abbrev tHs (P : Program) (w : World) (k : List Key) : Int := tupleKeyHash (mixKind P w) k
/-- the tuple at b is the key k -/
abbrev IsM (P : Program) (w : World) (h : Heap) (k : List Key) (b : Addr) : Prop := IsTupleKey (mixKind P w) h k b
abbrev Plc := Addr × List Key
def entM (P : Program) (w : World) (L : List Plc) : List (Int × Value) := L.map fun q => (tHs P w q.2, Value.ref q.1)
def hshM (P : Program) (w : World) (L : List Plc) : List Int := L.map fun q => tHs P w q.2
/-- the steps of a search -/
def stp (m : Nat) (h : Int) (c : Nat) : SetTable.Probe := nth m (runAt m (SetTable.bits h % (m + 1)) (SetTable.bits h)) c
theorem stp_j (m : Nat) (h : Int) (c : Nat) : (stp m h c).j = way m h c := rfl
theorem stp_add (m : Nat) (h : Int) (c q : Nat) : nth m (stp m h c) q = stp m h (c + q) := (nth_add m c _ q).symm
theorem nth_dm (m : Nat) : ∀ (n : Nat) (p : SetTable.Probe), p.dummy = none → (nth m p n).dummy = none
  | 0, _, h => h
  | n + 1, p, h => nth_dm m n (adv m p) (by unfold adv; split <;> exact h)
theorem stp_dm (m : Nat) (h : Int) (c : Nat) : (stp m h c).dummy = none := nth_dm m c _ rfl
section
variable {P : Program} {w : World} {A : Around} {E : Value → Shared → Prop} {s : Shared}
def Atm (v : Value) : Prop := (∃ i t, v = Value.int i t) ∨ ∃ x t, v = Value.str x t
theorem items_atm {k : List Key} {vs : List Value} (h : ItemsAre (mixKind P w) k vs) : ∀ v ∈ vs, Atm v := by
  induction h with
  | nil => intro v hv; cases hv
  | @cons k0 u ks us h1 _ ih =>
    intro v hv
    rcases List.mem_cons.mp hv with e | hv
    · rw [e]
      rcases keyIs_shape h1 with ⟨i, t, _, z⟩ | ⟨x, t, _, z⟩
      · exact .inl ⟨i, t, z⟩
      · exact .inr ⟨x, t, z⟩
    · exact ih v hv
theorem atm_cls {v : Value} (h : Atm v) (n : Nat) : ofAClassStatement n v = pure false := by
  rcases h with ⟨i, t, rfl⟩ | ⟨x, t, rfl⟩ <;> cases n <;> rfl
theorem atm_byv {v : Value} (h : Atm v) (n : Nat) : ∃ b, hashByValue n v = pure b := by
  rcases h with ⟨i, t, rfl⟩ | ⟨x, t, rfl⟩ <;> cases n <;> exact ⟨_, rfl⟩
theorem clsM {k : List Key} {b : Addr} {Q : Bool → Shared → Prop} (hk : IsM P w s.heap k b) (q : Q false s) : wpAny (model P w) A (ofAClassStatement 8 (.ref b)) Q E s := by
  have ty := hk.typeIs
  obtain ⟨o, its, n, ho, _, hd, hi⟩ := hk
  unfold ofAClassStatement
  refine wpAny_bind (wpAny_typeOf ty ?_)
  dsimp only
  have e : (("tuple" : String) == "tuple") = true := by decide
  simp only [e, if_true, Bool.not_true, Bool.false_eq_true, if_false]
  try refine wpAny_bind (wpAny_pure ?_)
  try simp only [Bool.not_true, Bool.false_eq_true, if_false]
  show wpAny _ _ (seqItems? (.ref b) >>= _) _ _ s
  refine wpAny_bind (wpAny_seqItems ho hd ?_)
  dsimp only
  refine wpAny_bind ?_
  show wpAny _ _ (forIn its _ _) _ _ s
  rw [← Array.forIn_toList]
  refine wpAny_forIn_list _ (fun left r z => r.1 = none ∧ z = s ∧ ∀ v ∈ left, Atm v) _ ?_ ?_ _ _ ⟨rfl, rfl, items_atm hi⟩
  · rintro v left r z ⟨hr, rfl, all⟩
    rw [atm_cls (all v List.mem_cons_self)]
    refine wpAny_bind (wpAny_pure ?_)
    simp only [Bool.false_eq_true, if_false]
    exact wpAny_pure ⟨rfl, rfl, fun u m => all u (List.mem_cons_of_mem _ m)⟩
  · rintro ⟨r1, r2⟩ z ⟨hr, rfl, _⟩
    simp only at hr
    subst hr
    exact wpAny_pure q
theorem byvM {k : List Key} {b : Addr} {Q : Bool → Shared → Prop} (hk : IsM P w s.heap k b) (q : ∀ c, Q c s) : wpAny (model P w) A (hashByValue 8 (.ref b)) Q E s := by
  have ty := hk.typeIs
  obtain ⟨o, its, n, ho, _, hd, hi⟩ := hk
  unfold hashByValue
  refine wpAny_bind (wpAny_specialOf ty F.slot_tuple_hash.lookup ?_)
  show wpAny _ _ (seqItems? (.ref b) >>= _) _ _ s
  refine wpAny_bind (wpAny_seqItems ho hd ?_)
  refine wpAny_bind ?_
  show wpAny _ _ (forIn its _ _) _ _ s
  rw [← Array.forIn_toList]
  refine wpAny_forIn_list _ (fun left r z => z = s ∧ ∀ v ∈ left, Atm v) _ ?_ ?_ _ _ ⟨rfl, items_atm hi⟩
  · rintro v left r z ⟨rfl, all⟩
    obtain ⟨c, e⟩ := atm_byv (all v List.mem_cons_self) 7
    rw [e]
    refine wpAny_bind (wpAny_pure ?_)
    cases c with
    | true =>
      simp only [Bool.not_true, Bool.false_eq_true, if_false]
      exact wpAny_pure ⟨rfl, fun u m => all u (List.mem_cons_of_mem _ m)⟩
    | false =>
      simp only [Bool.not_false, if_true]
      exact wpAny_pure (wpAny_pure (q false))
  · rintro ⟨r1, r2⟩ z ⟨rfl, _⟩
    cases r1 with
    | none => exact wpAny_pure (q _)
    | some c => exact wpAny_pure (q c)
/-- nothing of a search among such tuples is seen -/
theorem seenM {k : List Key} {b : Addr} {Q : Bool → Shared → Prop} (hk : IsM P w s.heap k b) {ys : List Value} (hy : ∀ y ∈ ys, ∃ k' c, y = Value.ref c ∧ IsM P w s.heap k' c) (q : Q false s) :
    wpAny (model P w) A (searchCouldBeSeen (.ref b) ys) Q E s := by
  unfold searchCouldBeSeen
  refine wpAny_bind ?_
  refine wpAny_forIn_list _ (fun left r z => r.1 = none ∧ z = s ∧ ∀ y ∈ left, ∃ k' c, y = Value.ref c ∧ IsM P w s.heap k' c) _ ?_ ?_ _ _ ⟨rfl, rfl, hy⟩
  · rintro v left r z ⟨hr, rfl, all⟩
    obtain ⟨k', c, rfl, hc⟩ := all v List.mem_cons_self
    have more : ∀ y ∈ left, ∃ k' c, y = Value.ref c ∧ IsM P w z.heap k' c := fun u m => all u (List.mem_cons_of_mem _ m)
    dsimp only
    by_cases hv : (b == c || (carriedByValue (.ref b) && carriedByValue (.ref c))) = true
    · exact wp_if_pos hv (wpAny_pure ⟨rfl, rfl, more⟩)
    · refine wp_if_neg hv (wpAny_bind (wpAny_eqIsQuiet_tuple hk ?_))
      simp only [Bool.not_true, Bool.false_eq_true, if_false]
      refine wpAny_bind (wpAny_eqIsQuiet_tuple hc ?_)
      simp only [Bool.not_true, Bool.false_eq_true, if_false]
      refine wpAny_bind (clsM hk ?_)
      simp only [Bool.false_eq_true, if_false]
      refine wpAny_bind (clsM hc ?_)
      simp only [Bool.false_eq_true, if_false]
      exact wpAny_pure ⟨rfl, rfl, more⟩
  · rintro ⟨r1, r2⟩ z ⟨hr, rfl, _⟩
    simp only at hr
    subst hr
    exact wpAny_pure q
/-- the set at a: its entries, its table -/
structure SetM (P : Program) (w : World) (h : Heap) (a : Addr) (L : List Plc) (es : Array (Int × Value)) (ep : Nat) (t : SetTable) : Prop where
  ob : ∃ o, h.get? a = some o ∧ o.ExactSet ∧ o.data = .set es ep t
  ent : es.toList = entM P w L
  tab : TabOk t (hshM P w L)
  nd : (L.map (·.2)).Nodup
  key : ∀ q ∈ L, IsM P w h q.2 q.1
  led : w.params.followText "set-order" = true ∨ t.led = true
  room : L.length * 5 < t.mask * 3
  few : L.length < 64
variable {a : Addr} {L : List Plc} {es : Array (Int × Value)} {ep : Nat} {t : SetTable}
theorem ent_size (h : es.toList = entM P w L) : es.size = L.length := by
  have q := congrArg List.length h
  unfold entM at q
  rwa [Array.length_toList, List.length_map] at q
theorem hsh_len (L : List Plc) : (hshM P w L).length = L.length := List.length_map ..
theorem fits_of (h1 : t.place.size = es.size) (h2 : t.dummies = #[]) (h3 : es.size ≤ t.mask) : t.fits es.size = true := by
  unfold SetTable.fits SetTable.fill
  rw [h2, Bool.and_eq_true, beq_iff_eq, decide_eq_true_eq]
  exact ⟨h1, by show t.place.size + 0 ≤ t.mask; omega⟩
theorem SetM.fits (R : SetM P w s.heap a L es ep t) : t.fits es.size = true := by
  have q1 := R.tab.sz
  rw [hsh_len] at q1
  have q2 := ent_size R.ent
  have q3 := R.room
  exact fits_of (by omega) R.tab.dm (by omega)
theorem ent_at (h : es.toList = entM P w L) {i : Nat} {q : Plc} (hq : L[i]? = some q) : es[i]? = some (tHs P w q.2, Value.ref q.1) := by
  rw [← Array.getElem?_toList, h]
  unfold entM
  rw [List.getElem?_map, hq]; rfl
theorem SetM.notGave (R : SetM P w s.heap a L es ep t) : ¬ t.gaveWay = true := by
  unfold SetTable.gaveWay
  rw [mask_odd R.tab.mok]
  decide
set_option maxHeartbeats 1000000 in
/-- the search, from its c-th step on -/
theorem seekM (R : SetM P w s.heap a L es ep t) {x : Addr} {k : List Key} (hx : IsM P w s.heap k x) (hu : A.units < cLine) {N : Nat} (hN : N < 10 * SetTable.turns t.mask)
    (free : way t.mask (tHs P w k) N ∉ t.place.toList) (full : ∀ c, c < N → way t.mask (tHs P w k) c ∈ t.place.toList) {Q : SetFound → Shared → Prop}
    (there : k ∈ L.map (·.2) → Q (.there none) s) (not : k ∉ L.map (·.2) → Q (.free (way t.mask (tHs P w k) N) false) s) :
    ∀ (f c : Nat) (st : Option SetTable.Probe), st.getD (t.probeStart (tHs P w k)) = stp t.mask (tHs P w k) c → c ≤ N → N - c < f →
      (∀ (i : Nat) (q : Plc), L[i]? = some q → q.2 = k → ∃ d, c ≤ d ∧ d < N ∧ t.place.toList[i]? = some (way t.mask (tHs P w k) d)) →
      wpAny (model P w) A (setSearchFrom a (.ref x) (tHs P w k) true f st) Q E s := by
  intro f
  induction f with
  | zero => intro c st _ _ hf; exact absurd hf (Nat.not_lt_zero _)
  | succ f ih =>
    intro c st e0 hc hf hre
    obtain ⟨o, ho, hex, hd⟩ := R.ob
    rw [setSearchFrom_succ]
    refine wpAny_bind (wpAny_setState_of ho hd R.fits ?_)
    dsimp only
    refine wp_if_neg R.notGave ?_
    try refine wpAny_bind (wpAny_pure ?_)
    obtain ⟨hA, ehA⟩ : ∃ g : Nat → Int, g = fun i => (es[i]?.map (·.1)).getD 0 := ⟨_, rfl⟩
    have hAt : ∀ (i : Nat) (q : Plc), L[i]? = some q → hA i = tHs P w q.2 := fun i q hq => by rw [ehA]; show (es[i]?.map (·.1)).getD 0 = _; rw [ent_at R.ent hq]; rfl
    have jj : ∀ q, (nth t.mask (stp t.mask (tHs P w k) c) q).j = way t.mask (tHs P w k) (c + q) := fun q => by rw [stp_add]; rfl
    have spec := go_spec t R.tab.ris R.tab.dm hA (tHs P w k) (10 * SetTable.turns t.mask) (N - c) (stp t.mask (tHs P w k) c) (stp_dm _ _ _) (by omega)
      (fun q hq => by rw [jj]; exact full (c + q) (by omega)) (by rw [jj, show c + (N - c) = N by omega]; exact free)
    rw [← ehA, e0]
    rcases spec with ⟨q, i, hq, hi, _, before, hpr⟩ | ⟨none, hpr⟩
    · have hpr : t.probe hA (tHs P w k) (stp t.mask (tHs P w k) c) = _ := hpr
      rw [hpr]
      dsimp only
      rw [jj] at hi
      have hil : i < L.length := by
        have z1 : i < t.place.toList.length := (List.getElem?_eq_some_iff.mp hi).1
        have z2 := R.tab.sz
        rw [hsh_len] at z2
        rw [Array.length_toList] at z1
        omega
      have hp : L[i]? = some L[i] := List.getElem?_eq_getElem hil
      generalize L[i] = p at hp
      have hm : p ∈ L := List.mem_of_getElem? hp
      have go : wpAny (model P w) A (searchRest a (.ref x) (tHs P w k) true f es t (nth t.mask (stp t.mask (tHs P w k) c) q).j i (nth t.mask (stp t.mask (tHs P w k) c) (q + 1))) Q E s := by
        unfold searchRest
        rw [ent_at R.ent hp]
        dsimp only
        refine wpAny_bind (wpAny_holding (wpAny_eqBool_tuple hu (R.key p hm) hx ?_))
        refine wpAny_bind (wpAny_setState_of ho hd R.fits ?_)
        dsimp only
        by_cases ek : p.2 = k
        · exact wp_if_pos (by simp [ek]) (wpAny_pure (there (List.mem_map.mpr ⟨p, hm, ek⟩)))
        · refine wp_if_neg (by simp [ek]) ?_
          try refine wpAny_bind (wpAny_pure ?_)
          rw [sameMem]
          dsimp only
          have live : t.slot (nth t.mask (stp t.mask (tHs P w k) c) q).j = .live i := slot_live R.tab.ris (by rw [jj]; exact hi)
          simp only [if_true, live, ent_at R.ent hp]
          refine wpAny_bind (wpAny_isSame_ref_self (wpAny_bind (wpAny_pure ?_)))
          simp only [if_true]
          refine wp_if_neg (by simp [ek]) ?_
          refine ih (c + (q + 1)) _ (stp_add ..) (by omega) (by omega) fun i' p' h' k' => ?_
          obtain ⟨d, d1, d2, d3⟩ := hre i' p' h' k'
          refine ⟨d, ?_, d2, d3⟩
          rcases Nat.lt_trichotomy d (c + q) with z | z | z
          · refine absurd ((hAt i' p' h').trans (congrArg (tHs P w) k')) (before (d - c) i' (by omega) ?_)
            rw [jj, show c + (d - c) = d by omega]; exact d3
          · subst z
            have s0 := slot_live R.tab.ris d3
            rw [← jj, live] at s0
            injection s0 with s0
            rw [← s0, hp] at h'
            exact absurd ((congrArg Prod.snd (Option.some.inj h')).trans k') ek
          · omega
      by_cases hl : t.led = true
      · refine wp_if_neg (by simp [hl]) ?_
        try refine wpAny_bind (wpAny_pure ?_)
        exact go
      · refine wp_if_pos (by simp [hl]) (wpAny_bind (seenM hx (fun y hy => ?_) ?_))
        · obtain ⟨e, he, ee⟩ := List.mem_map.mp hy
          have he1 : e ∈ es ∧ e.1 = tHs P w k := by simpa using he
          have he2 : e ∈ es.toList := by simpa using he1.1
          rw [R.ent] at he2
          obtain ⟨p2, hp2, e2⟩ := List.mem_map.mp he2
          exact ⟨p2.2, p2.1, by rw [← ee, ← e2], R.key p2 hp2⟩
        · refine wp_if_neg (by decide) ?_
          try refine wpAny_bind (wpAny_pure ?_)
          exact go
    · have hpr : t.probe hA (tHs P w k) (stp t.mask (tHs P w k) c) = _ := hpr
      rw [hpr, jj, show c + (N - c) = N by omega]
      dsimp only
      refine wpAny_pure (not fun hm => ?_)
      obtain ⟨p', m', k'⟩ := List.mem_map.mp hm
      obtain ⟨i', hi', e'⟩ := List.getElem_of_mem m'
      have h' : L[i']? = some p' := by rw [List.getElem?_eq_getElem hi', e']
      obtain ⟨d, d1, d2, d3⟩ := hre i' p' h' k'
      refine none (d - c) i' (by omega) (by rw [jj, show c + (d - c) = d by omega]; exact d3) ?_
      exact (hAt i' p' h').trans (congrArg (tHs P w) k')
theorem searchM (R : SetM P w s.heap a L es ep t) {x : Addr} {k : List Key} (hx : IsM P w s.heap k x) (hu : A.units < cLine) {Q : SetFound → Shared → Prop}
    (there : k ∈ L.map (·.2) → Q (.there none) s)
    (not : ∀ N, k ∉ L.map (·.2) → way t.mask (tHs P w k) N ∉ t.place.toList → (∀ c, c < N → way t.mask (tHs P w k) c ∈ t.place.toList) → Q (.free (way t.mask (tHs P w k) N) false) s) :
    wpAny (model P w) A (setSearch a (.ref x) (tHs P w k) true) Q E s := by
  have room := R.room
  obtain ⟨N, h1, h2, h3⟩ := R.tab.first (by rw [hsh_len]; omega) (tHs P w k)
  have big : N < 100000 := by
    have : 10 * SetTable.turns t.mask ≤ 1420 := by
      unfold SetTable.turns
      rcases R.tab.mok with e | e | e <;> omega
    omega
  unfold setSearch
  refine seekM R hx hu h1 h2 h3 there (fun hn => not N hn h2 h3) 100000 0 none rfl (Nat.zero_le _) (by omega) fun i q hq hk => ?_
  have e1 : (hshM P w L)[i]? = some (tHs P w k) := by unfold hshM; rw [List.getElem?_map, hq, ← hk]; rfl
  have hil : i < t.place.toList.length := by
    have z1 : i < L.length := (List.getElem?_eq_some_iff.mp hq).1
    have z2 := R.tab.sz
    rw [hsh_len] at z2
    rw [Array.length_toList]
    omega
  have hj := List.getElem?_eq_getElem hil
  obtain ⟨d, d1, d2⟩ := R.tab.before h2 e1 hj
  exact ⟨d, Nat.zero_le _, d1, by rw [hj, d2]⟩
theorem isM_same {h h' : Heap} {k : List Key} {a b : Addr} {o : Obj} {es : Array (Int × Value)} {ep : Nat} {t : SetTable} (hb : IsM P w h k b) (ho : h.get? a = some o) (hd : o.data = .set es ep t) (sb : Heap.SameBut a h h') : IsM P w h' k b := by
  obtain ⟨u, its, n, hu, hc, hd', hi⟩ := hb
  refine ⟨u, its, n, (sb.2 b fun e => ?_).trans hu, hc, hd', hi⟩
  subst e
  rw [hu] at ho
  cases ho
  rw [hd] at hd'
  cases hd'
theorem isM_keep {h h' : Heap} {k : List Key} {b : Addr} (x : IsM P w h k b) (hk : ∀ c o, h.get? c = some o → h'.get? c = some o) : IsM P w h' k b := by
  obtain ⟨u, its, n, hu, r⟩ := x
  exact ⟨u, its, n, hk b u hu, r⟩
/-- the entries in another order -/
theorem order_ent (es : Array (Int × Value)) (order : Array Nat) (hr : es.toList = entM P w L) (hp : order.toList.Perm (List.range L.length)) :
    ∃ L2, (order.filterMap (es[·]?)).toList = entM P w L2 ∧ L2.Perm L ∧ hshM P w L2 = order.toList.map fun i => (es.map (·.1)).getD i 0 := by
  have hsz := ent_size hr
  have all : ∀ l : List Nat, (∀ i ∈ l, i < L.length) → l.filterMap (fun i => es[i]?) = entM P w (l.filterMap fun i => L[i]?) ∧ hshM P w (l.filterMap fun i => L[i]?) = l.map fun i => (es.map (·.1)).getD i 0 := by
    intro l
    induction l with
    | nil => intro _; exact ⟨rfl, rfl⟩
    | cons i l ih =>
      intro hl
      have hi := hl i List.mem_cons_self
      obtain ⟨e1, e2⟩ := ih fun j hj => hl j (List.mem_cons_of_mem _ hj)
      have q1 : L[i]? = some L[i] := List.getElem?_eq_getElem hi
      have q2 := ent_at hr q1
      rw [List.filterMap_cons_some q2, List.filterMap_cons_some q1]
      refine ⟨by rw [e1]; rfl, ?_⟩
      have q3 : (es.map (·.1))[i]? = some (tHs P w (L[i]).2) := by rw [Array.getElem?_map, q2]; rfl
      show tHs P w (L[i]).2 :: hshM P w _ = _
      rw [e2, List.map_cons, Array.getD_eq_getD_getElem?, q3]
      rfl
  obtain ⟨e1, e2⟩ := all order.toList fun i hi => List.mem_range.mp (hp.mem_iff.mp hi)
  refine ⟨_, by first | (rw [Array.toList_filterMap]; exact e1) | simpa using e1, ?_, e2⟩
  have h2 : (List.range L.length).filterMap (fun i => L[i]?) = L := by
    have key2 : ∀ n, n ≤ L.length → (List.range n).filterMap (fun i => L[i]?) = L.take n := by
      intro n
      induction n with
      | zero => intro _; rfl
      | succ n ih =>
        intro hn
        have lt : n < L.length := hn
        have q := List.getElem?_eq_getElem lt
        rw [List.range_succ, List.filterMap_append, ih (Nat.le_of_lt lt), List.take_succ, q, List.filterMap_cons_some q]
        rfl
    rw [key2 L.length (Nat.le_refl _), List.take_length]
  have h1 := hp.filterMap (fun i => L[i]?)
  rwa [h2] at h1
/-- laid anew, larger -/
theorem relayM {o : Obj} (ho : s.heap.get? a = some o) (hex : o.ExactSet) (hd : o.data = .set es ep t) (hent : es.toList = entM P w L) (hsz : t.place.size = es.size) (hdm : t.dummies = #[]) (hfl : es.size ≤ t.mask)
    (nd : (L.map (·.2)).Nodup) (key : ∀ q ∈ L, IsM P w s.heap q.2 q.1) (ld : w.params.followText "set-order" = true ∨ t.led = true) (few : L.length < 64) {wanted M : Nat}
    (hw : SetTable.sizeAbove wanted - 1 = M) (hM : MaskOk M) (hw2 : SetTable.sizeAbove wanted ≤ 128) (hn : L.length * 5 < M * 3) {Q : Unit → Shared → Prop}
    (k : ∀ h' L' es' ep' t', Heap.SameBut a s.heap h' → SetM P w h' a L' es' ep' t' → L'.Perm L → Q () { s with heap := h' }) : wpAny (model P w) A (setRelay a wanted) Q E s := by
  have hsl := ent_size hent
  obtain ⟨t', order, e, hp, T, em, el, _, _⟩ := relaid_ok t (hs := es.map (·.1)) (wanted := wanted) hw hM (by rw [Array.size_map, hsl]; omega)
  rw [Array.size_map, hsl] at hp
  obtain ⟨L2, r1, r2, r3⟩ := order_ent es order hent hp
  rw [← r3] at T
  have hs2 := (ent_size r1).trans (r2.length_eq.trans hsl.symm)
  rw [setRelay_eq]
  refine wpAny_bind (wpAny_setState_of ho hd (fits_of hsz hdm hfl) ?_)
  dsimp only
  refine wp_if_neg (by rw [sizeLine_eq]; omega) ?_
  try refine wpAny_bind (wpAny_pure ?_)
  rw [e]
  dsimp only
  refine wpAny_bind (wp_if_neg (by rw [hs2]; simp) ?_)
  try refine wpAny_bind (wpAny_pure ?_)
  refine wpAny_pure ?_
  dsimp only
  refine wpAny_storeSet_of ho hd ?_ (by rw [hs2, hsl, sizeLine_eq]; omega)
  have sb : Heap.SameBut a s.heap (s.heap.update a (Obj.putSet (order.filterMap (es[·]?)) t')) := Heap.SameBut.update ..
  exact k _ L2 _ (ep + 1) t' sb ⟨⟨_, store_at ho hd, ⟨hex.1, hex.2.1, hex.2.2⟩, rfl⟩, r1, T, (r2.map (·.2)).nodup_iff.mpr nd, fun q hq => isM_same (key q (r2.mem_iff.mp hq)) ho hd sb, by rw [el]; exact ld, by rw [r2.length_eq, em]; exact hn, by rw [r2.length_eq]; exact few⟩ r2
theorem tab_plain {hs : List Int} (T : TabOk t hs) (b : Bool) : TabOk (if b = true then t else { t with plain := false }) hs := by
  cases b with
  | true => exact T
  | false => exact ⟨T.ris, T.dm, T.sz, T.mok, T.bd, T.reach⟩
set_option maxHeartbeats 1000000 in
/-- one more -/
theorem addM (R : SetM P w s.heap a L es ep t) {x : Addr} {k : List Key} (hx : IsM P w s.heap k x) (hu : A.units < cLine) (hfew : L.length + 1 < 64) {Q : Bool → Shared → Prop}
    (c : ∀ b h' L' es' ep' t', Heap.SameBut a s.heap h' → SetM P w h' a L' es' ep' t' → (k ∈ L.map (·.2) → L' = L) → (k ∉ L.map (·.2) → L'.Perm ((x, k) :: L)) → Q b { s with heap := h' }) :
    wpAny (model P w) A (setAddHashed a (.ref x) (tHs P w k)) Q E s := by
  obtain ⟨o, ho, hex, hd⟩ := R.ob
  have hsl := ent_size R.ent
  have room := R.room
  unfold setAddHashed
  refine wpAny_holding ?_
  rw [show (100000 : Nat) = 99999 + 1 from rfl, setAddHashedIn_succ]
  refine wpAny_bind (wpAny_setState_of ho hd R.fits ?_)
  dsimp only
  refine wp_if_neg (by simp [byScan, Value.scannable]) ?_
  try refine wpAny_bind (wpAny_pure ?_)
  refine wpAny_bind (searchM R hx hu (fun hm => ?_) fun N hm hN hb => ?_)
  · dsimp only
    exact wpAny_pure (c false s.heap L es ep t (Heap.SameBut.refl a s.heap) R (fun _ => rfl) fun z => absurd hm z)
  · dsimp only
    refine wpAny_bind (wpAny_setState_of ho hd R.fits ?_)
    dsimp only
    obtain ⟨q1, q2, q3, q4, q5, _, _, _, q9⟩ := R.tab.put hN hb
    generalize hpt : t.put (way t.mask (tHs P w k) N) = pt at q1 q3 q4 q5 q9 ⊢
    obtain ⟨t1, p⟩ := pt
    dsimp only at q1 q3 q4 q5 q9 ⊢
    subst q1
    have hin : (SetTable.insertAt es (SetTable.below t.place (way t.mask (tHs P w k) N)) (tHs P w k, Value.ref x)).toList = entM P w (L.take (SetTable.below t.place (way t.mask (tHs P w k) N)) ++ (x, k) :: L.drop (SetTable.below t.place (way t.mask (tHs P w k) N))) := by
      rw [SetTable.toList_insertAt, R.ent]
      unfold entM
      rw [List.map_append, List.map_cons, List.map_take, List.map_drop]
    generalize hpp : SetTable.below t.place (way t.mask (tHs P w k) N) = p at q2 q3 hin ⊢
    have pm := put_perm L p (x, k)
    have hlen : (L.take p ++ (x, k) :: L.drop p).length = L.length + 1 := pm.length_eq
    have hhs : hshM P w (L.take p ++ (x, k) :: L.drop p) = (hshM P w L).take p ++ tHs P w k :: (hshM P w L).drop p := by
      unfold hshM
      rw [List.map_append, List.map_cons, List.map_take, List.map_drop]
    rw [← hhs] at q3
    have nd1 : ((L.take p ++ (x, k) :: L.drop p).map (·.2)).Nodup := by
      refine (pm.map (·.2)).nodup_iff.mpr ?_
      rw [List.map_cons]
      exact List.nodup_cons.mpr ⟨hm, R.nd⟩
    generalize SetTable.insertAt es p (tHs P w k, Value.ref x) = es1 at hin ⊢
    generalize L.take p ++ (x, k) :: L.drop p = L1 at pm hlen q3 nd1 hin
    have hes : es1.size = L.length + 1 := (ent_size hin).trans hlen
    have main : ∀ bv : Bool, wpAny (model P w) A (do
        storeSet a es1 (if bv = true then t1 else { t1 with plain := false })
        if (!false && (if bv = true then t1 else { t1 with plain := false }).tooFull) = true then setRelay a (SetTable.grown (es.size + 1))
        return true) Q E s := by
      intro bv
      have T := tab_plain q3 bv
      have em : (if bv = true then t1 else { t1 with plain := false }).mask = t1.mask := by cases bv <;> rfl
      have el : (if bv = true then t1 else { t1 with plain := false }).led = t1.led := by cases bv <;> rfl
      have ef : (if bv = true then t1 else { t1 with plain := false }).fill = t1.fill := by cases bv <;> rfl
      generalize (if bv = true then t1 else { t1 with plain := false }) = t2 at T em el ef ⊢
      rw [q9, hsh_len] at ef
      rw [q4] at em
      rw [q5] at el
      refine wpAny_bind (wpAny_storeSet_of ho hd ?_ (by rw [hes, sizeLine_eq]; omega))
      have sb : Heap.SameBut a s.heap (s.heap.update a (Obj.putSet es1 t2)) := Heap.SameBut.update ..
      have ho1 := store_at (es' := es1) (t' := t2) ho hd
      generalize s.heap.update a (Obj.putSet es1 t2) = h1 at sb ho1 ⊢
      have key1 : ∀ q ∈ L1, IsM P w h1 q.2 q.1 := fun q hq => by
        rcases List.mem_cons.mp (pm.mem_iff.mp hq) with e | hq
        · rw [e]; exact isM_same hx ho hd sb
        · exact isM_same (R.key q hq) ho hd sb
      have ld1 : w.params.followText "set-order" = true ∨ t2.led = true := by rw [el]; exact R.led
      have full : t2.tooFull = true ↔ (L.length + 1) * 5 ≥ t.mask * 3 := by
        unfold SetTable.tooFull
        rw [decide_eq_true_eq, ef, em]
      by_cases hf : t2.tooFull = true
      · first
          | (refine wpAny_bind ?_; refine wp_if_pos (by simp [hf]) ?_)
          | (refine wp_if_pos (by simp [hf]) ?_; refine wpAny_bind ?_)
        have hfull := full.mp hf
        rw [hsl]
        have hsz1 : t2.place.size = es1.size := by
          have z := T.sz
          rw [hsh_len, hlen] at z
          rw [z, hes]
        have two : (t.mask = 7 ∧ L.length = 4) ∨ (t.mask = 31 ∧ L.length = 18) := by
          rcases R.tab.mok with e | e | e
          · left; rw [e] at hfull room; exact ⟨e, by omega⟩
          · right; rw [e] at hfull room; exact ⟨e, by omega⟩
          · exfalso; rw [e] at hfull; omega
        have go : ∀ M, SetTable.sizeAbove (SetTable.grown (L.length + 1)) - 1 = M → MaskOk M → SetTable.sizeAbove (SetTable.grown (L.length + 1)) ≤ 128 → (L.length + 1) * 5 < M * 3 →
            wpAny (model P w) A (setRelay a (SetTable.grown (L.length + 1))) (fun _ z => wpAny (model P w) A (pure true) Q E z) E { s with heap := h1 } := fun M m1 m2 m3 m4 =>
          relayM (s := { s with heap := h1 }) ho1 ⟨hex.1, hex.2.1, hex.2.2⟩ rfl hin hsz1 T.dm (by rw [hes, em]; rcases two with ⟨e, e2⟩ | ⟨e, e2⟩ <;> omega) nd1 key1 ld1 (by rw [hlen]; exact hfew) m1 m2 m3 (by rw [hlen]; exact m4)
            fun h2 L2 es2 ep2 t3 sb2 R2 pm2 => wpAny_pure (c true h2 L2 es2 ep2 t3 (sb.trans sb2) R2 (fun z => absurd z hm) fun _ => pm2.trans pm)
        rcases two with ⟨_, e2⟩ | ⟨_, e2⟩
        · exact go 31 (by rw [e2, size_20]) (.inr (.inl rfl)) (by rw [e2, size_20]; decide) (by omega)
        · exact go 127 (by rw [e2, size_76]) (.inr (.inr rfl)) (by rw [e2, size_76]; decide) (by omega)
      · first
          | refine wp_if_neg (by simp [hf]) ?_
          | (refine wpAny_bind ?_; refine wp_if_neg (by simp [hf]) ?_; refine wpAny_pure ?_)
        refine wpAny_pure (c true h1 L1 es1 (ep + 1) t2 sb ⟨⟨_, ho1, ⟨hex.1, hex.2.1, hex.2.2⟩, rfl⟩, hin, T, nd1, key1, ld1, ?_, by rw [hlen]; exact hfew⟩ (fun z => absurd z hm) fun _ => pm)
        have : ¬ (L.length + 1) * 5 ≥ t.mask * 3 := fun z => hf (full.mpr z)
        rw [hlen, em]
        omega
    by_cases hp1 : t1.plain = true
    · first
        | (refine wpAny_bind ?_; refine wp_if_pos hp1 ?_; exact byvM hx fun bv => main bv)
        | exact wp_if_pos hp1 (wpAny_bind (byvM hx fun bv => main bv))
    · first
        | (refine wpAny_bind ?_; refine wp_if_neg hp1 ?_; exact wpAny_pure (main true))
        | exact wp_if_neg hp1 (wpAny_bind (wpAny_pure (main true)))
end
end Hr

end
section
/-! HrTb: set(xs), sorted(set(xs)), len(set(xs)), xs a list of tuples of a text and an int -/
namespace Hr
open PySem PySem.Spec L2 PyProof.Rows
section
variable {P : Program} {w : World} {A : Around} {E : Value → Shared → Prop} {s : Shared}
theorem setM_new {h : Heap} {a : Addr} (ho : h.get? a = some (freshSet (!w.params.followText "set-order"))) : SetM P w h a [] #[] 0 (.fresh 0 0 (!w.params.followText "set-order")) :=
  ⟨⟨_, ho, ⟨rfl, rfl, rfl⟩, rfl⟩, rfl, ⟨List.Pairwise.nil, rfl, rfl, .inl rfl, fun x hx => (by cases hx), fun i h j hi => (by simp [hshM] at hi)⟩, List.nodup_nil, fun p hp => (by cases hp), by
    show _ ∨ (!w.params.followText "set-order") = true
    cases w.params.followText "set-order"
    · exact .inr rfl
    · exact .inl rfl, by show 0 * 5 < 7 * 3; decide, by show 0 < 64; decide⟩
/-- what came of the first i of ks -/
def Cam (ks : List Plc) (i : Nat) (L : List Plc) : Prop := (∀ q ∈ L, q ∈ ks.take i) ∧ ∀ q ∈ ks.take i, q.2 ∈ L.map (·.2)
theorem nodup_le {α : Type} [DecidableEq α] : ∀ {l m : List α}, l.Nodup → (∀ x ∈ l, x ∈ m) → l.length ≤ m.length
  | [], _, _, _ => Nat.zero_le _
  | a :: l, m, nd, h => by
    have nd := List.nodup_cons.mp nd
    have ha := h a List.mem_cons_self
    have := nodup_le (l := l) (m := m.erase a) nd.2 fun x hx => (List.mem_erase_of_ne fun e => nd.1 (by rw [← e]; exact hx)).mpr (h x (List.mem_cons_of_mem _ hx))
    rw [List.length_erase_of_mem ha] at this
    have := List.length_pos_of_mem ha
    rw [List.length_cons]
    omega
theorem Cam.len {ks L : List Plc} {i : Nat} (h : Cam ks i L) (nd : (L.map (·.2)).Nodup) : L.length ≤ ks.length := by
  have n1 : L.Nodup := by
    have := List.pairwise_map.mp nd
    exact this.imp fun h z => h (by rw [z])
  have : L.length ≤ (ks.take i).length := nodup_le n1 fun q hq => h.1 q hq
  rw [List.length_take] at this
  omega
theorem Cam.step {ks L L' : List Plc} {i : Nat} {x : Addr} {k : List Key} (h : Cam ks i L) (e : ks[i]? = some (x, k)) (h1 : k ∈ L.map (·.2) → L' = L) (h2 : k ∉ L.map (·.2) → L'.Perm ((x, k) :: L)) : Cam ks (i + 1) L' := by
  have et : ks.take (i + 1) = ks.take i ++ [(x, k)] := by rw [List.take_succ, e]; rfl
  by_cases hm : k ∈ L.map (·.2)
  · rw [h1 hm]
    refine ⟨fun q hq => by rw [et]; exact List.mem_append_left _ (h.1 q hq), fun q hq => ?_⟩
    rw [et] at hq
    rcases List.mem_append.mp hq with z | z
    · exact h.2 q z
    · rw [List.mem_singleton.mp z]; exact hm
  · have pm := h2 hm
    refine ⟨fun q hq => ?_, fun q hq => ?_⟩
    · rw [et]
      rcases List.mem_cons.mp (pm.mem_iff.mp hq) with z | z
      · rw [z]; simp
      · exact List.mem_append_left _ (h.1 q z)
    · rw [et] at hq
      refine (pm.map (·.2)).mem_iff.mpr ?_
      rw [List.map_cons]
      rcases List.mem_append.mp hq with z | z
      · exact List.mem_cons_of_mem _ (h.2 q z)
      · rw [List.mem_singleton.mp z]; exact List.mem_cons_self
section
variable {I S : Addr} {fp wr : List Addr} {G : Array GenState → Array GenState → Prop} {n : Nat} {Pv : Nat → Value → Prop} {St : Nat → Shared → Prop} {R : Result → Shared → Prop}
theorem setM_moved {h h' : Heap} {L : List Plc} {es : Array (Int × Value)} {ep : Nat} {t : SetTable} (x : SetM P w h S L es ep t) (hS : ∀ o, h.get? S = some o → h'.get? S = some o) (hk : ∀ q ∈ L, IsM P w h' q.2 q.1) : SetM P w h' S L es ep t := by
  obtain ⟨o, ho, hex, hd⟩ := x.ob
  exact ⟨⟨o, hS o ho, hex, hd⟩, x.ent, x.tab, x.nd, hk, x.led, x.room, x.few⟩
/-- the set's loop over tuples -/
theorem loopM (W : WalksS P w A.in1 I fp wr G n Pv St) (hS : S ∉ fp) {ks : List Plc} (hn : n = ks.length) (hv : ∀ i v, Pv i v → ∃ q, ks[i]? = some q ∧ v = .ref q.1) (hw : ∀ q ∈ ks, q.1 ∉ wr) (hfew : ∀ L : List Plc, (∀ q ∈ L, q ∈ ks) → (L.map (·.2)).Nodup → L.length < 63) (hu : A.units + 3 < cLine) :
    ∀ (m i : Nat) (s : Shared) (L : List Plc) (es : Array (Int × Value)) (ep : Nat) (t : SetTable), i + m = n → St i s → SetM P w s.heap S L es ep t → Cam ks i L → (∀ q ∈ ks, IsM P w s.heap q.2 q.1) →
      (∀ s' L' es' ep' t', Moved (S :: wr) G s s' → SetM P w s'.heap S L' es' ep' t' → Cam ks n L' → R (.ok (.ret .none)) s') →
      codeAny (model P w) A (.builtin "set.update.loop" ⟨[.ref S, .ref I], []⟩) R s
  | 0, i, s, L, es, ep, t, hi, st, so, cm, key, k => by
    have e : i = n := by omega
    subst e
    have nw : S ∉ wr := fun z => hS (W.sub _ z)
    refine codeAny_builtin PyProof.Rows.F.entry_set_update_loop ?_
    rw [Around.under_plainId PyProof.Rows.F.plain_set_update_loop _]
    show wpAny _ A.in1 (pyNext (.ref I) >>= _) _ _ s
    refine wpAny_bind (W.done s _ _ st fun s1 mv => ?_)
    show wpAny _ A.in1 (ret Value.none) _ _ s1
    refine wpAny_pure (k s1 L es ep t (mv.mono fun b z => List.mem_cons_of_mem _ z) (setM_moved so (fun o e => mv.heap S o nw e) fun q hq => ?_) cm)
    have hq' : q ∈ ks := List.mem_of_mem_take (cm.1 q hq)
    obtain ⟨u, its, c, h1, h2⟩ := key q hq'
    exact ⟨u, its, c, mv.heap _ u (hw q hq') h1, h2⟩
  | m + 1, i, s, L, es, ep, t, hi, st, so, cm, key, k => by
    have nw : S ∉ wr := fun z => hS (W.sub _ z)
    refine codeAny_builtin PyProof.Rows.F.entry_set_update_loop ?_
    rw [Around.under_plainId PyProof.Rows.F.plain_set_update_loop _]
    show wpAny _ A.in1 (pyNext (.ref I) >>= _) _ _ s
    refine wpAny_bind (W.item i s _ _ (by omega) st fun v s1 pv st1 mv => ?_)
    obtain ⟨⟨x, kx⟩, hq, rfl⟩ := hv i v pv
    have key1 : ∀ q ∈ ks, IsM P w s1.heap q.2 q.1 := fun q hq => by
      obtain ⟨u, its, c, h1, h2⟩ := key q hq
      exact ⟨u, its, c, mv.heap _ u (hw q hq) h1, h2⟩
    have so1 : SetM P w s1.heap S L es ep t := setM_moved so (fun o e => mv.heap S o nw e) fun q hq => key1 q (List.mem_of_mem_take (cm.1 q hq))
    have hx : IsM P w s1.heap kx x := key1 (x, kx) (List.mem_of_getElem? hq)
    show wpAny _ A.in1 (holding [.ref x] (setAdd S (.ref x)) >>= _) _ _ s1
    refine wpAny_bind (wpAny_holding ?_)
    unfold setAdd
    refine wpAny_holding (wpAny_bind (wpAny_pyHash_tuple (by show A.in1.units < cLine; simp [Around.in1]; omega) hx ?_))
    have cl := hfew L (fun q hq => List.mem_of_mem_take (cm.1 q hq)) so.nd
    refine addM (s := { s1 with toks := s1.toks + (kx.length + 1) }) so1 hx (by show A.in1.units < cLine; simp [Around.in1]; omega) (by omega) fun b h' L' es' ep' t' sb R' c1 c2 => ?_
    have key2 : ∀ q ∈ ks, IsM P w h' q.2 q.1 := fun q hq => by
      obtain ⟨o, ho, _, hd⟩ := so1.ob
      exact isM_same (key1 q hq) ho hd sb
    refine wpAny_pure ⟨plainId_quiet PyProof.Rows.F.plain_set_update_loop _, loopM W hS hn hv hw hfew hu m (i + 1) { s1 with heap := h', toks := s1.toks + (kx.length + 1) } L' es' ep' t' (by omega) (W.frame _ s1 _ _ st1 (Nat.le_add_right _ _) fun b mb o e => ?_) R' (cm.step hq c1 c2) key2 fun s2 L2 es2 ep2 t2 mv2 so4 cm2 => ?_⟩
    · rw [sb.2 b fun z => hS (by rw [← z]; exact mb)]; exact e
    · refine k s2 L2 es2 ep2 t2 (Moved.trans W.gtrans ((mv.mono fun b z => List.mem_cons_of_mem _ z).then_heap (Nat.le_add_right _ _) fun b o nb e => ?_) mv2) so4 cm2
      rw [sb.2 b fun z => nb (by rw [z]; exact List.mem_cons_self ..)]; exact e
end
set_option maxHeartbeats 3200000 in
/-- set(xs) -/
theorem call_setM {l : Addr} {items : Array Value} {ks : List Plc} {Q : Value → Shared → Prop} (hh : A.handled = none) (hl : s.heap.IsList l items) (hit : items.toList = ks.map fun q => Value.ref q.1) (key : ∀ q ∈ ks, IsM P w s.heap q.2 q.1) (hfew : ∀ L : List Plc, (∀ q ∈ L, q ∈ ks) → (L.map (·.2)).Nodup → L.length < 63) (hu : A.units + 16 < cLine)
    (h : ∀ (h' : Heap) (tk : Nat) L es ep t, SetM P w h' s.heap.objs.size L es ep t → Cam ks ks.length L → (∀ b o, s.heap.get? b = some o → h'.get? b = some o) → Q (.ref s.heap.objs.size) { s with heap := h', toks := tk }) :
    wpAny (model P w) A (call (.type "set") [.ref l]) Q E s := by
  have hn : items.size = ks.length := by
    have q := congrArg List.length hit
    rwa [Array.length_toList, List.length_map] at q
  have hv : ∀ (i : Nat) (v : Value), items[i]? = some v → ∃ q, ks[i]? = some q ∧ v = .ref q.1 := fun i v e => by
    rw [← Array.getElem?_toList, hit, List.getElem?_map] at e
    cases q : ks[i]? with
    | none => rw [q] at e; cases e
    | some q' => rw [q] at e; cases e; exact ⟨q', rfl, rfl⟩
  obtain ⟨c0, tl0, hmro⟩ := PySem.F.called_set.mro
  have mk := PySem.F.called_set.made
  have sb := PySem.F.called_set.sub
  refine wpAny_call (codeAny_of_tree ?_)
  show wpAny _ _ (callAny (.type "set") _) _ _ _
  refine wpAny_pure ⟨Code.quiet_builtin _ (by decide +kernel), codeAny_builtin PySem.F.entry_type_call ?_⟩
  rw [Around.under_plain (weight_type_call_type "set" [.ref l] []) rfl]
  have t1 := PySem.F.called_set.notType
  have t2 := PySem.F.called_set.canCreate
  have t3 := PySem.F.typeCall_set_1 (.ref l)
  repeat (any_goals (first | assumption | wp_step))
  refine codeAny_mono (code_set_led1 (.ref l) (E := E) (Q₁ := fun ob s1 => ob = .ref s.heap.objs.size ∧ s1 = { s with heap := s.heap.push (freshSet (!w.params.followText "set-order")) }) ⟨rfl, rfl⟩) fun r1 s1 hr => ?_
  cases r1 with
  | error e => exact hr
  | ok fl =>
    cases fl with
    | ret ob =>
      obtain ⟨rfl, rfl⟩ := hr
      generalize hled : (!w.params.followText "set-order") = led
      have gS : (s.heap.push (freshSet led)).get? s.heap.objs.size = some (freshSet led) := Heap.get?_push_size _ rfl
      have tS : Shared.TypeIs { s with heap := s.heap.push (freshSet led) } (.ref s.heap.objs.size) "set" := ⟨_, gS, rfl⟩
      have i1 := PySem.F.called_set.init.lookup
      have i2 := PySem.F.called_set.init.bind (.ref s.heap.objs.size)
      repeat (any_goals (first | assumption | wp_step))
      refine codeAny_mono (codeAny_call_builtin (R := wants (fun r s2 => r = .none ∧ ∃ h' tk L es ep t, s2 = { s with heap := h', toks := tk } ∧ SetM P w h' s.heap.objs.size L es ep t ∧ Cam ks ks.length L ∧
          (∀ b o, s.heap.get? b = some o → h'.get? b = some o)) E) PySem.F.called_set.init.plain PySem.F.entry_set_init (check_set_init_1 tS ?_)) fun r2 s2 hr2 => ?_
      · obtain ⟨⟨oc, od, oda, osl⟩, hol, hcl, nl, hdl⟩ := hl
        simp only at hcl hdl
        subst hcl hdl
        have hol2 : (s.heap.push (freshSet led)).get? l = some { cls := .type "list", dict := od, data := .seq items nl, slots := osl } := Heap.get?_push_of_some _ hol
        have n1 := PySem.F.sub_list_set
        have n2 := PySem.F.sub_list_frozenset
        have n3 : (Value.type "list" == Value.type "dict") = false := by decide
        have hl2 : (s.heap.push (freshSet led)).IsList l items := ⟨_, hol2, rfl, nl, rfl⟩
        unfold Builtin.«set.__init__» noKeywords Builtin.Frozenset.updateFrom
        generalize hPI : pyIter = PI
        wp_walk
        subst hPI
        refine wpAny_pyIter_list hl2 (wpAny_bind (wpAny_runValue ?_))
        have llt : l < s.heap.objs.size := Heap.lt_size hol
        have hh3 : A.in1.in1.in1.handled = none := by simp [hh]
        have zs : (s.heap.push (freshSet led)).objs.size = s.heap.objs.size + 1 := Heap.size_push ..
        have neI : l ≠ (s.heap.push (freshSet led)).objs.size := by rw [zs]; exact Nat.ne_of_lt (Nat.lt_succ_of_lt llt)
        have nS : s.heap.objs.size ∉ [(s.heap.push (freshSet led)).objs.size, l] := by
          intro z
          rcases List.mem_cons.mp z with e | z
          · rw [zs] at e; exact absurd e (Nat.ne_of_lt (Nat.lt_succ_self _))
          · exact absurd (List.mem_singleton.mp z) (Nat.ne_of_gt llt)
        have up : ∀ b o, s.heap.get? b = some o → ((s.heap.push (freshSet led)).push { cls := .type "list_iterator", data := .fields #[.ref l, .int 0 0] }).get? b = some o := fun b o e => Heap.get?_push_of_some _ (Heap.get?_push_of_some _ e)
        have key0 : ∀ q ∈ ks, IsM P w ((s.heap.push (freshSet led)).push { cls := .type "list_iterator", data := .fields #[.ref l, .int 0 0] }) q.2 q.1 := fun q hq => isM_keep (key q hq) up
        refine loopM ((Walks.list hh3 _ l neI items).toS) nS hn hv (fun q hq z => ?_) hfew (by simp [Around.in1]; omega) items.size 0 _ [] #[] 0 (.fresh 0 0 led) (by omega) ⟨⟨_, Heap.get?_push_size _ rfl, rfl, rfl⟩, (hl2.push _)⟩ ?s0 ⟨fun q hq => (by cases hq), fun q hq => (by simp at hq)⟩ key0 ?fin
        · obtain ⟨u, its, c, h1, h2⟩ := key q hq
          have := Heap.lt_size h1
          rw [List.mem_singleton.mp z, zs] at this
          exact absurd this (Nat.not_lt.mpr (Nat.le_succ _))
        case s0 =>
          have g2 : ((s.heap.push (freshSet led)).push { cls := .type "list_iterator", data := .fields #[.ref l, .int 0 0] }).get? s.heap.objs.size = some (freshSet led) := Heap.get?_push_of_some _ gS
          subst hled
          exact setM_new g2
        case fin =>
          rintro ⟨h', g', d', tk', os'⟩ L' es' ep' t' mv so cm
          have eg : g' = s.gens := mv.gens
          have ed : d' = s.drawn := mv.drawn
          have eo : os' = s.os := mv.os
          subst eg ed eo
          show wpAny _ _ _ _ _ _
          refine wpAny_pure ?_
          show wpAny _ _ (ret Value.none) _ _ _
          refine wpAny_pure ⟨rfl, h', tk', L', es', ep', t', rfl, so, by rw [hn] at cm; exact cm, fun b o e => mv.heap b o (fun z => ?_) (up b o e)⟩
          have lt := Heap.lt_size e
          rcases List.mem_cons.mp z with q | z
          · rw [q] at lt; exact absurd lt (Nat.lt_irrefl _)
          · rw [List.mem_singleton.mp z, zs] at lt
            exact absurd lt (Nat.not_lt.mpr (Nat.le_succ _))
      · cases r2 with
        | error e => exact hr2
        | ok fl2 =>
          cases fl2 with
          | ret r =>
            obtain ⟨rfl, h', tk, L, es, ep, t, rfl, so, cm, kp⟩ := hr2
            repeat (any_goals (first | assumption | wp_step))
            exact h _ _ _ _ _ _ so cm kp
          | _ => exact hr2.elim
    | _ => exact hr.elim
end
end Hr

end
section
/-! HrTc: sorted(set(xs)), len(set(xs)), xs a list of tuples of a text and an int -/
namespace Hr
open PySem PySem.Spec L2 PyProof.Rows
def prD (p : Str × Int) : D := .tup [.str p.1, .int p.2]
def prK (p : Str × Int) : List Key := [.inr p.1, .inl p.2]
def lePr (a b : Str × Int) : Bool := leD (prD a) (prD b)
theorem lePr_tr (a b c : Str × Int) (h1 : lePr a b = true) (h2 : lePr b c = true) : lePr a c = true := leD_tr _ _ _ h1 h2
theorem lePr_to (a b : Str × Int) : (lePr a b || lePr b a) = true := leD_to _ _
theorem prK_inj {a b : Str × Int} (h : prK a = prK b) : a = b := by
  injection h with h1 h2
  injection h1 with h1
  injection h2 with h2 _
  injection h2 with h2
  exact Prod.ext h1 h2
theorem lePr_anti {a b : Str × Int} (h1 : lePr a b = true) (h2 : lePr b a = true) : a = b := by
  have q1 : lexLt itemOrd (PySem.W.keyToks (prD b).py) (PySem.W.keyToks (prD a).py) = false := by
    have : (!lexLt itemOrd (PySem.W.keyToks (prD b).py) (PySem.W.keyToks (prD a).py)) = true := h1
    simpa using this
  have q2 : lexLt itemOrd (PySem.W.keyToks (prD a).py) (PySem.W.keyToks (prD b).py) = false := by
    have : (!lexLt itemOrd (PySem.W.keyToks (prD a).py) (PySem.W.keyToks (prD b).py)) = true := h2
    simpa using this
  have e := lex_total (O := itemOrd) _ _ q1 q2
  have e : ([.inl 1, .inr b.1.cps.toList, .inl 1, .inl b.2, .inl 0] : List (Int ⊕ List Nat)) = [.inl 1, .inr a.1.cps.toList, .inl 1, .inl a.2, .inl 0] := e
  injection e with _ e
  injection e with e1 e
  injection e with _ e
  injection e with e2 _
  injection e1 with e1
  injection e2 with e2
  refine Prod.ext ?_ e2.symm
  have : a.1.cps = b.1.cps := Array.toList_inj.mp e1.symm
  cases ha : a.1
  cases hb : b.1
  rw [ha, hb] at this
  simp only at this
  rw [this]
/-- each once -/
def nubP : List (Str × Int) → List (Str × Int)
  | [] => []
  | p :: ps => if p ∈ nubP ps then nubP ps else p :: nubP ps
theorem mem_nubP {x : Str × Int} : ∀ {ps : List (Str × Int)}, x ∈ nubP ps ↔ x ∈ ps
  | [] => Iff.rfl
  | p :: ps => by
    unfold nubP
    split
    · rename_i h
      rw [mem_nubP, List.mem_cons]
      exact ⟨.inr, fun z => z.elim (fun e => by rw [e]; exact mem_nubP.mp h) id⟩
    · rw [List.mem_cons, List.mem_cons, mem_nubP]
theorem nubP_nd : ∀ ps : List (Str × Int), (nubP ps).Nodup
  | [] => List.nodup_nil
  | p :: ps => by
    unfold nubP
    split
    · exact nubP_nd ps
    · rename_i h
      exact List.nodup_cons.mpr ⟨h, nubP_nd ps⟩
theorem nubP_len : ∀ ps : List (Str × Int), (nubP ps).length ≤ ps.length
  | [] => Nat.le_refl _
  | p :: ps => by
    have := nubP_len ps
    unfold nubP
    split <;> simp only [List.length_cons] <;> omega
theorem nd_le {α : Type} [DecidableEq α] : ∀ {l m : List α}, l.Nodup → (∀ x ∈ l, x ∈ m) → l.length ≤ m.length
  | [], _, _, _ => Nat.zero_le _
  | a :: l, m, nd, h => by
    obtain ⟨n1, n2⟩ := List.nodup_cons.mp nd
    have ha := h a List.mem_cons_self
    have h2 := nd_le (m := m.erase a) n2 fun x hx => (List.mem_erase_of_ne (fun z => n1 (by rw [← z]; exact hx))).mpr (h x (List.mem_cons_of_mem _ hx))
    rw [List.length_erase_of_mem ha] at h2
    have := List.length_pos_of_mem ha
    rw [List.length_cons]
    omega
def srtP (ps : List (Str × Int)) : List (Str × Int) := isort lePr (nubP ps)
theorem srtP_ms (ps : List (Str × Int)) : srtP ps = (nubP ps).mergeSort lePr := (msort_eq lePr_tr lePr_to _).symm
theorem srtP_pw (ps : List (Str × Int)) : (srtP ps).Pairwise (fun a b => lePr a b = true) := by rw [srtP_ms]; exact List.pairwise_mergeSort lePr_tr lePr_to _
theorem srtP_perm (ps : List (Str × Int)) : (srtP ps).Perm (nubP ps) := by rw [srtP_ms]; exact List.mergeSort_perm ..
theorem mem_srtP {x : Str × Int} {ps : List (Str × Int)} : x ∈ srtP ps ↔ x ∈ ps := (srtP_perm ps).mem_iff.trans mem_nubP
theorem srtP_nd (ps : List (Str × Int)) : (srtP ps).Nodup := (srtP_perm ps).nodup_iff.mpr (nubP_nd ps)
theorem srtP_eq {l ps : List (Str × Int)} (pw : l.Pairwise (fun a b => lePr a b = true)) (nd : l.Nodup) (hm : ∀ x, x ∈ l ↔ x ∈ ps) : l = srtP ps :=
  List.Perm.eq_of_pairwise (fun a b _ _ h1 h2 => lePr_anti h1 h2) pw (srtP_pw ps) ((List.perm_ext_iff_of_nodup nd (srtP_nd ps)).mpr fun x => (hm x).trans mem_srtP.symm)
section
variable {P : Program} {w : World} {A : Around} {E : Value → Shared → Prop} {s : Shared} {a : Addr} {L : List Plc} {es : Array (Int × Value)} {ep : Nat} {t : SetTable}
/-- a place and what pair stands there -/
abbrev Pp := Addr × (Str × Int)
def ppK (q : Pp) : Plc := (q.1, prK q.2)
theorem ppK_inj {q r : Pp} (h : ppK q = ppK r) : q = r := by
  have h1 := congrArg Prod.fst h
  have h2 := prK_inj (congrArg Prod.snd h)
  exact Prod.ext h1 h2
theorem readsP {h : Heap} {b : Addr} {p : Str × Int} (x : IsM P w h (prK p) b) : Reads h (.ref b) (prD p).py [] := by
  obtain ⟨o, its, n, ho, hc, hd, hi⟩ := x
  refine reads_tuple_at ho hc hd ?_
  have hi : ItemsAre (mixKind P w) [.inr p.1, .inl p.2] its.toList := hi
  generalize its.toList = l at hi ⊢
  cases hi with
  | cons h1 hi =>
    cases hi with
    | cons h2 hi =>
      cases hi
      rcases keyIs_shape (k := Sum.inr p.1) h1 with ⟨i, t, e, z⟩ | ⟨x, t, e, z⟩
      · cases e
      · cases e
        subst z
        rcases keyIs_shape (k := Sum.inl p.2) h2 with ⟨i, t', e, z⟩ | ⟨x, t', e, z⟩
        · cases e
          subst z
          exact .cons (.str _ _) (.cons (.int _ _) .nil)
        · cases e
theorem eachRef : ∀ L : List Pp, PySem.W.EachIs (fun (v : Value) (q : Pp) => v = .ref q.1) (L.map fun q => Value.ref q.1) L
  | [] => .nil
  | q :: L => .cons rfl (eachRef L)
theorem refs_of {out : List Value} {L : List Pp} (h : PySem.W.EachIs (fun (v : Value) (q : Pp) => v = .ref q.1) out L) : out = L.map fun q => Value.ref q.1 := by
  induction h with
  | nil => rfl
  | cons e _ ih => rw [e, ih]; rfl
theorem each_all {β : Type} {R : Value → β → Prop} {f : β → Value} : ∀ {L : List β}, (∀ q ∈ L, R (f q) q) → PySem.W.EachIs R (L.map f) L
  | [], _ => .nil
  | q :: L, h => .cons (h q List.mem_cons_self) (each_all fun r hr => h r (List.mem_cons_of_mem _ hr))
set_option maxHeartbeats 1000000 in
/-- sorted of such a set -/
theorem sorted_setM {N : List Pp} (R : SetM P w s.heap a L es ep t) (hN : L = N.map ppK) (hh : A.handled = none) (hu : A.units + 64 < cLine) {Q : Value → Shared → Prop}
    (k : ∀ s' p (out : Array Value) (c : Nat) (N' : List Pp), (∀ b o, s.heap.get? b = some o → s'.heap.get? b = some o) → s'.gens = s.gens → s'.os = s.os → s.heap.objs.size ≤ p →
      s'.heap.get? p = some (seqObj "list" out c) → out.toList = N'.map (fun q => Value.ref q.1) → N'.Perm N → N'.Pairwise (fun q r => lePr q.2 r.2 = true) → Q (.ref p) s') :
    wpAny (model P w) A (call (.builtin "sorted") [.ref a]) Q E s := by
  obtain ⟨o, ho, hex, hd⟩ := R.ob
  have hsz := ent_size R.ent
  have hfew := R.few
  have hNl : N.length = L.length := by rw [hN, List.length_map]
  refine Calls.call_function_entry kind_sorted plain_sorted entry_sorted (args_sorted1 _) ?_
  unfold Builtin.«sorted»
  refine wpAny_bind (m := checkCount "sorted" 1 1 _) (wpAny_pure ?_)
  refine wpAny_bind (collect_set (A := A.in1) hh ⟨o, ho, hex.1, hd⟩ R.fits (by unfold scanBound; omega) R.tab.ris R.led fun s1 vs k1 hz g1 o1 pm => ?_)
  have hes : es.toList.map (·.2) = N.map fun q => Value.ref q.1 := by
    rw [R.ent, hN]
    unfold entM
    rw [List.map_map, List.map_map]; rfl
  rw [hes] at pm
  obtain ⟨N1, p1, e1⟩ : ∃ N1 : List Pp, N1.Perm N ∧ vs = N1.map fun q => Value.ref q.1 := by
    have key : ∀ {us ws : List Value}, us.Perm ws → ∀ N : List Pp, ws = (N.map fun q => Value.ref q.1) → ∃ N1 : List Pp, N1.Perm N ∧ us = N1.map fun q => Value.ref q.1 := by
      intro us ws h
      induction h with
      | nil => intro N e; cases N with
        | nil => exact ⟨[], .refl _, rfl⟩
        | cons _ _ => cases e
      | cons x h ih =>
        intro N e
        cases N with
        | nil => cases e
        | cons q N =>
          injection e with e1 e2
          obtain ⟨N1, h1, h2⟩ := ih N e2
          exact ⟨q :: N1, h1.cons q, by rw [h2, e1]; rfl⟩
      | swap x y l =>
        intro N e
        cases N with
        | nil => cases e
        | cons q N =>
          cases N with
          | nil => cases e
          | cons r N =>
            injection e with e1 e2
            injection e2 with e2 e3
            exact ⟨r :: q :: N, .swap _ _ _, by rw [e1, e2, e3]; rfl⟩
      | trans _ _ ih1 ih2 =>
        intro N e
        obtain ⟨N1, h1, h2⟩ := ih2 N e
        obtain ⟨N2, h3, h4⟩ := ih1 N1 h2
        exact ⟨N2, h3.trans h1, h4⟩
    exact key pm N rfl
  subst e1
  have hl1 : N1.length < 64 := by rw [p1.length_eq, hNl]; exact hfew
  have hvl : (N1.map fun q => Value.ref q.1).length ≤ sizeLine := by rw [List.length_map, sizeLine_eq]; omega
  refine wpAny_bind (wpAny_newList ?_ hvl)
  have hoL : (s1.heap.push (seqObj "list" (N1.map fun q => Value.ref q.1).toArray 0)).get? s1.heap.objs.size = some (seqObj "list" (N1.map fun q => Value.ref q.1).toArray 0) := Heap.get?_push_size _ rfl
  have rd : ∀ q ∈ N1, Reads (s1.heap.push (seqObj "list" (N1.map fun q => Value.ref q.1).toArray 0)) (.ref q.1) (prD q.2).py [] := fun q hq => by
    have : IsM P w s.heap (prK q.2) q.1 := R.key (ppK q) (by rw [hN]; exact List.mem_map.mpr ⟨q, p1.mem_iff.mp hq, rfl⟩)
    exact readsP (P := P) (w := w) (isM_keep this fun b u e => Heap.get?_push_of_some _ (k1 b u e))
  refine wpAny_bind (wpAny_holding (PySem.W.list_sort_data (s := { s1 with heap := s1.heap.push (seqObj "list" (N1.map fun q => Value.ref q.1).toArray 0) }) (R := fun (v : Value) (q : Pp) => v = .ref q.1) (enc := fun q : Pp => (prD q.2).py) hoL (eachRef N1) (each_all fun q hq => ⟨[], rd q hq, fun z => by cases z⟩) ?_ ?_ (by rw [sizeLine_eq]; omega) (fun q _ => ?_) fun out h1 h2 => ?_))
  · intro d hd' d' hd''
    obtain ⟨q, _, rfl⟩ := List.mem_map.mp hd'
    obtain ⟨r, _, rfl⟩ := List.mem_map.mp hd''
    rfl
  · left
    intro d hd'
    obtain ⟨q, _, rfl⟩ := List.mem_map.mp hd'
    exact ⟨_, _, rfl⟩
  · show A.in1.units + 1 + (prD q.2).dep < cLine
    have : (prD q.2).dep = 1 := rfl
    rw [this]
    simp [Around.in1]
    omega
  · have eo := refs_of h2
    obtain ⟨c, hc⟩ := sortedHeap_at (vs := N1.map fun q => Value.ref q.1) (out := out.toArray) hoL
    refine wpAny_pure ⟨_, rfl, k _ s1.heap.objs.size out.toArray c (N1.mergeSort (PySem.W.dataLe false fun q : Pp => (prD q.2).py)) (fun b u e => ?_) g1 o1 hz hc (by simpa using eo) ((List.mergeSort_perm ..).trans p1) ?_⟩
    · have q := k1 b u e
      have hlt := Heap.lt_size q
      show (sortedHeap (s1.heap.push (seqObj "list" (N1.map fun q => Value.ref q.1).toArray 0)) s1.heap.objs.size _ out.toArray).get? b = some u
      rw [sortedHeap_old (Nat.ne_of_lt hlt) (by rw [size_push']; exact Nat.lt_succ_of_lt hlt)]
      exact Heap.get?_push_of_some _ q
    · exact List.pairwise_mergeSort (le := fun q r : Pp => lePr q.2 r.2) (fun a b c h1 h2 => lePr_tr _ _ _ h1 h2) (fun a b => lePr_to _ _) N1
end
def prsD : List D → Option (List (Str × Int))
  | [] => some []
  | .tup [.str a, .int k] :: ds => (prsD ds).map fun ps => (a, k) :: ps
  | _ => none
theorem prsD_eq : ∀ {ds : List D} {ps : List (Str × Int)}, prsD ds = some ps → ds = ps.map prD := by
  intro ds
  induction ds with
  | nil => intro ps h; cases h; rfl
  | cons d ds ih =>
    intro ps h
    unfold prsD at h
    split at h
    · rename_i z; cases z
    · rename_i a k ds' z
      cases z
      cases q : prsD ds with
      | none => rw [q] at h; cases h
      | some ps' =>
        rw [q] at h
        cases h
        rw [ih q]
        rfl
    · cases h
theorem prsD_map : ∀ ps : List (Str × Int), prsD (ps.map prD) = some ps
  | [] => rfl
  | p :: ps => by show (prsD (ps.map prD)).map _ = _; rw [prsD_map ps]; rfl
theorem prs_vals {K : Frag} {G : Hp} : ∀ {ps : List (Str × Int)} {vs : List V}, RDs K G vs (ps.map prD) → ∃ ks : List Pp, vs = (ks.map fun q => V.ref q.1) ∧ ks.map (·.2) = ps ∧ ∀ q ∈ ks, G q.1 = some (.tup [.str q.2.1, .int q.2.2])
  | [], _, .nil => ⟨[], rfl, rfl, fun q hq => by cases hq⟩
  | p :: ps, _, .cons r rs => by
    obtain ⟨ks, e1, e2, e3⟩ := prs_vals rs
    obtain ⟨b, rfl, hb⟩ := keyOf_T r (k := prK p) rfl
    exact ⟨(b, p) :: ks, by rw [e1]; rfl, by rw [← e2]; rfl, fun q hq => by
      rcases List.mem_cons.mp hq with z | z
      · rw [z]; exact hb
      · exact e3 q z⟩
theorem rds_prs {K : Frag} {G : Hp} : ∀ {ks : List Pp}, (∀ q ∈ ks, RD K G (.ref q.1) (prD q.2)) → RDs K G (ks.map fun q => V.ref q.1) (ks.map fun q => prD q.2)
  | [], _ => .nil
  | q :: ks, h => .cons (h q List.mem_cons_self) (rds_prs fun r hr => h r (List.mem_cons_of_mem _ hr))
section
variable {X : Cx}
/-- x is a list of such tuples -/
def PrL (K : Frag) (H : Hp) (x : V) (ks : List Pp) : Prop := ∃ l, x = V.ref l ∧ SqL K H l (ks.map fun q => V.ref q.1) ∧ (nubP (ks.map (·.2))).length < 63 ∧ ∀ q ∈ ks, H q.1 = some (.tup [.str q.2.1, .int q.2.2])
theorem vals_pp : ∀ {ks : List Pp} {us : List Value}, Vals (ks.map fun q => V.ref q.1) us → us = (ks.map ppK).map fun q => Value.ref q.1
  | [], _, .nil => rfl
  | q :: ks, _, .cons r rs => by
    cases r
    rw [vals_pp rs]; rfl
theorem lift_pp {ks : List Pp} : ∀ {L : List Plc}, (∀ q ∈ L, q ∈ ks.map ppK) → ∃ N : List Pp, L = N.map ppK ∧ ∀ q ∈ N, q ∈ ks
  | [], _ => ⟨[], rfl, fun q hq => by cases hq⟩
  | q :: L, h => by
    obtain ⟨N, e, hN⟩ := lift_pp fun r hr => h r (List.mem_cons_of_mem _ hr)
    obtain ⟨r, hr, e'⟩ := List.mem_map.mp (h q List.mem_cons_self)
    exact ⟨r :: N, by rw [e, ← e']; rfl, fun z hz => by
      rcases List.mem_cons.mp hz with y | y
      · rw [y]; exact hr
      · exact hN z y⟩
/-- the set made of such a list -/
theorem set_pp {pins : List (Addr × Obj)} {σ : L2.St} {H : Hp} {s : Shared} {x : V} {u : Value} {ks : List Pp} {Q : Value → Shared → Prop} (hc : X.calm = true) (hu : X.A.units + 64 < cLine) (I : L2.Inv X pins σ H s) (r : RelV x u) (h : PrL X.K H x ks)
    (k : ∀ h' tk L es ep t (N : List Pp), L2.Inv X pins σ H { s with heap := h', toks := tk } → SetM X.prog X.w h' s.heap.objs.size L es ep t → L = N.map ppK → (N.map (·.2)).Nodup → (∀ z, z ∈ N.map (·.2) ↔ z ∈ ks.map (·.2)) → (∀ q ∈ N, q ∈ ks) → Q (.ref s.heap.objs.size) { s with heap := h', toks := tk }) :
    wpAny (model X.prog X.w) X.A (call (.type "set") [u]) Q X.xe s := by
  obtain ⟨l, rfl, hs, hk, hcell⟩ := h
  cases r
  obtain ⟨its, rv, pl, _⟩ := I.list hs
  refine call_setM (ks := ks.map ppK) (I.ok.hd hc) pl.isList (by rw [List.toList_toArray]; exact vals_pp rv) (fun q hq => ?_) (fun L hL nd => ?_) (by omega) fun h' tk L es ep t R cm kp => ?_
  · obtain ⟨r, hr, rfl⟩ := List.mem_map.mp hq
    exact key_of (ks := prK r.2) I.hok (hcell r hr)
  · obtain ⟨N, e, hN⟩ := lift_pp hL
    rw [e, List.map_map] at nd
    have nd2 : (N.map (·.2)).Nodup := List.pairwise_map.mpr ((List.pairwise_map.mp nd).imp fun {a b} hne z => hne (by show prK a.2 = prK b.2; rw [z]))
    have := nd_le (m := nubP (ks.map (·.2))) nd2 fun x hx => by
      obtain ⟨q, hq, rfl⟩ := List.mem_map.mp hx
      exact mem_nubP.mpr (List.mem_map.mpr ⟨q, hN q hq, rfl⟩)
    rw [List.length_map] at this
    rw [e, List.length_map]
    omega
  · rw [List.length_map] at cm
    have ct : (ks.map ppK).take ks.length = ks.map ppK := by
      have := List.take_length (l := ks.map ppK)
      rwa [List.length_map] at this
    obtain ⟨c1, c2⟩ := cm
    rw [ct] at c1 c2
    obtain ⟨N, e, hN⟩ := lift_pp c1
    have nd := R.nd
    rw [e, List.map_map] at nd
    refine k h' tk L es ep t N (I.kept kp) R e ?_ (fun z => ?_) hN
    · refine List.pairwise_map.mpr ((List.pairwise_map.mp nd).imp fun {a b} hne z => hne ?_)
      show prK a.2 = prK b.2
      rw [z]
    · constructor
      · intro hz
        obtain ⟨q, hq, rfl⟩ := List.mem_map.mp hz
        exact List.mem_map.mpr ⟨q, hN q hq, rfl⟩
      · intro hz
        obtain ⟨q, hq, rfl⟩ := List.mem_map.mp hz
        have := c2 (ppK q) (List.mem_map.mpr ⟨q, hq, rfl⟩)
        rw [e, List.map_map] at this
        obtain ⟨r, hr, er⟩ := List.mem_map.mp this
        exact List.mem_map.mpr ⟨r, hr, prK_inj er⟩
end
end Hr

end
section
/-! HrU: len(set(xs)) as an expression -/
namespace Hr
open PySem PySem.Spec L2 PyProof.Rows
section
variable {X : Cx} {B : Base} {W : WX} {Γ : Ow} {a : Expr} {fa : En → R D} {pos p p2 q : Pos}
def tLenSetK (K : Frag) (ta : TE) : TE := fun σ H Q => ta σ H fun x H1 => (∃ (l : Addr) (ks : List Key), x = V.ref l ∧ SqL K H1 l (ks.map kV) ∧ ks.length ≤ 1000 ∧ Q (.int ((metK [] ks).length : Nat)) H1) ∨ ∃ ks : List Pp, PrL K H1 x ks ∧ Q (.int ((nubP (ks.map (·.2))).length : Nat)) H1
theorem pe_lenSetK {ta : TE} (hu : X.A.units + 64 < cLine) (hc : X.calm = true) (hg : Gl X "len") (hm : X.mg "len" = none) (hg2 : Gl X "set") (hm2 : X.mg "set" = none) (ha : PE X a ta) (na : starEach [a] X.env = (false, eval a X.env) :: starEach [] X.env) :
    PE X (.Call (.Name "len" p) [.Call (.Name "set" p2) [a] [] q] [] pos) (tLenSetK X.K ta) := by
  constructor
  intro pins s σ H Q I h
  refine Call_ (ld_blt I hg hm PySem.boot_len (PyProof.Rows.callWith_builtin1 (PyProof.Rows.args_cons (Call_ (ld_blt I hg2 hm2 PyProof.Rows.boot_set ?_)) rfl) rfl rfl))
  refine PyProof.Rows.callWith_type1 (PyProof.Rows.args_cons (thn (ha.run pins s σ H _ I h) fun v s1 ⟨x, H1, I1, r1, hx⟩ => PyProof.Rows.args_nil ?_) na) na rfl
  rcases hx with hx | ⟨ks, hp, k⟩
  · obtain ⟨l, ks, rfl, hs, hk, k⟩ := hx
    cases r1
    obtain ⟨its, rv, pl, _⟩ := I1.list hs
    have hz : its.toArray.size = ks.length := by rw [List.size_toArray, ← rv.length, List.length_map]
    refine call_setK (I1.ok.hd hc) pl.isList hz (fun i v e => keysAt rv rfl i v (by rw [← e, Array.getElem?_toList.symm]) ) (by rw [hz]; unfold scanBound; omega) fun h' tk so kp => PyProof.Rows.args_nil ?_
    obtain ⟨o, es, ep, t, ho, hex, hd, _, _, _, hf, hn⟩ := so
    have I2 : Inv X pins σ H1 { s1 with heap := h', toks := tk } := I1.kept fun b u e => kp b u (Heap.lt_size e) e
    have hl := metK_len ks []
    simp only [List.length_nil, Nat.zero_add] at hl
    exact call_len_set ho hex hd hf (by rw [hn]; omega) ⟨.int ((metK [] ks).length : Nat), H1, I2.tok _, ⟨_, by rw [hn]⟩, k⟩
  · refine set_pp hc hu I1 r1 hp fun h' tk L es ep t N I2 R hN nd hm _ => PyProof.Rows.args_nil ?_
    obtain ⟨o, ho, hex, hd⟩ := R.ob
    have hn : es.size = (nubP (ks.map (·.2))).length := by
      rw [ent_size R.ent, hN, List.length_map, ← List.length_map (f := (·.2))]
      exact ((List.perm_ext_iff_of_nodup nd (nubP_nd _)).mpr fun z => (hm z).trans mem_nubP.symm).length_eq
    have few := R.few
    have hs2 := ent_size R.ent
    have hf : t.fits es.size = true := SetM.fits (s := { s1 with heap := h', toks := tk }) R
    exact call_len_set (s := { s1 with heap := h', toks := tk }) ho hex hd hf (by rw [hs2]; omega) ⟨.int ((nubP (ks.map (·.2))).length : Nat), H1, I2.tok _, ⟨_, by rw [hn]⟩, k⟩
def keysD : List D → Option (List Key)
  | [] => some []
  | .int i :: ds => (keysD ds).map fun ks => Sum.inl i :: ks
  | .str x :: ds => (keysD ds).map fun ks => Sum.inr x :: ks
  | _ :: _ => none
theorem keysD_vals {K : Frag} {G : Hp} : ∀ {vs : List V} {ds : List D} {ks : List Key}, RDs K G vs ds → keysD ds = some ks → vs = ks.map kV
  | _, [], _, .nil, h => by cases h; rfl
  | _, d :: ds, _, .cons a r, h => by
    cases d with
    | int i =>
      have h : (keysD ds).map (fun ks => Sum.inl i :: ks) = some _ := h
      cases e : keysD ds with
      | none => rw [e] at h; cases h
      | some ks => rw [e] at h; cases h; rw [a.int_inv, keysD_vals r e]; rfl
    | str x =>
      have h : (keysD ds).map (fun ks => Sum.inr x :: ks) = some _ := h
      cases e : keysD ds with
      | none => rw [e] at h; cases h
      | some ks => rw [e] at h; cases h; rw [a.str_inv.1, keysD_vals r e]; rfl
    | _ => cases h
def dLenSet : D → R D
  | .lst ds => match keysD ds with
    | some ks => R.of (if ks.length ≤ 1000 then some (.int ((metK [] ks).length : Nat)) else none)
    | none => match prsD ds with
      | some ps => R.of (if (nubP ps).length < 63 then some (.int ((nubP ps).length : Nat)) else none)
      | none => .stuck
  | _ => .stuck
theorem dLenSet_noexc (x : D) (c : Str) : dLenSet x ≠ .exc c := by
  unfold dLenSet
  split
  · split
    · exact of_noexc _ _
    · split
      · exact of_noexc _ _
      · exact fun z => nomatch z
  · exact fun z => nomatch z
def eLenSet (fa : En → R D) : En → R D := fun s => fa s >>= dLenSet
theorem ev_lenSet (hu : X.A.units + 64 < cLine) (hc : X.calm = true) (hg : Gl X "len") (hm : X.mg "len" = none) (hg2 : Gl X "set") (hm2 : X.mg "set" = none) (hs : noStar a = true) (ha : EB X B W Γ a fa) : EV X B W Γ (.Call (.Name "len" p) [.Call (.Name "set" p2) [a] [] q] [] pos) (eLenSet fa) :=
  PE.imp (pe_lenSetK hu hc hg hm hg2 hm2 ha (noStar_ok hs _ _)) fun σ H Q ⟨s, G, rl, k⟩ => ⟨s, G, rl, k.bind.imp (fun d _ k x G1 H1 g1 r => by
    obtain ⟨v, e, k1⟩ := k.ok (dLenSet_noexc _)
    clear k
    cases d with
    | lst ds =>
      have e : (match keysD ds with
        | some ks => R.of (if ks.length ≤ 1000 then some (D.int ((metK [] ks).length : Nat)) else none)
        | none => match prsD ds with
          | some ps => R.of (if (nubP ps).length < 63 then some (D.int ((nubP ps).length : Nat)) else none)
          | none => .stuck) = .ok v := e
      cases z : keysD ds with
      | none =>
        rw [z] at e
        simp only at e
        cases zp : prsD ds with
        | none => rw [zp] at e; cases e
        | some ps =>
          rw [zp] at e
          simp only at e
          by_cases hl : (nubP ps).length < 63
          · rw [if_pos hl] at e
            cases e
            obtain ⟨l, vs, rfl, sq, _, rs⟩ := r.lst g1.gh
            have ed := prsD_eq zp
            subst ed
            obtain ⟨ks, rfl, rfl, hc'⟩ := prs_vals rs
            exact .inr ⟨ks, ⟨l, rfl, .inl (.inl sq), hl, fun q hq => g1.gh _ _ (hc' q hq)⟩, k1 _ G1 H1 g1 (.int _)⟩
          · rw [if_neg hl] at e; cases e
      | some ks =>
        rw [z] at e
        have e : R.of (if ks.length ≤ 1000 then some (D.int ((metK [] ks).length : Nat)) else none) = .ok v := e
        by_cases hl : ks.length ≤ 1000
        · rw [if_pos hl] at e
          cases e
          obtain ⟨l, vs, rfl, sq, _, rs⟩ := r.lst g1.gh
          have ev := keysD_vals rs z
          subst ev
          exact .inl ⟨l, ks, rfl, .inl (.inl sq), hl, k1 _ G1 H1 g1 (.int _)⟩
        · rw [if_neg hl] at e; cases e
    | _ => cases e) fun _ z => z⟩
/-! ### for c in text -/
def chrs (x : Str) : List D := x.cps.toList.map fun c => .str ⟨#[c]⟩
def eItS (fa : En → R D) : En → R (List D) := fun s => fa s >>= fun d => isStr d >>= fun x => .ok (chrs x)
theorem it_str {K : Frag} {G Z : Hp} {x : Str} (h1 : PyData.strOk x = true) (h2 : x.length ≤ sizeLine) : ItOk K (Its x) (chrs x) G Z := by
  have hl : (chrs x).length = x.cps.size := by unfold chrs; rw [List.length_map]; rfl
  refine ⟨by rw [hl]; exact h2, fun _ _ _ _ _ => by show x.cps.size ≤ _; rw [hl]; exact Nat.le_refl _, fun i d _ _ e _ _ _ => ?_, fun i d G1 H1 v H2 e g gh _ y => ?_⟩
  · have := (List.getElem?_eq_some_iff.mp e).1
    rw [hl] at this
    exact this
  · obtain ⟨rfl, c, hc, rfl⟩ := y
    unfold chrs at e
    rw [List.getElem?_map, Array.getElem?_toList, hc] at e
    cases e
    refine ⟨G1, .refl gh, .str _ ?_ ?_⟩
    · rw [strOk_list] at h1 ⊢
      intro c' hm
      have : c' = c := by simpa using hm
      subst this
      exact h1 _ (by rw [← Array.getElem?_toList] at hc; exact List.mem_of_getElem? hc)
    · show 1 ≤ sizeLine
      rw [sizeLine_eq]; decide
theorem eif_str {tg : Expr} (ha : EB X B W Γ a fa) : EIf X B W Γ tg a (eItS fa) := PI.imp (pi_str ha) fun σ H R ⟨s, G, rl, k⟩ => ⟨s, G, rl, k.bind.imp (fun d _ k v G1 H1 g1 r => by
    obtain ⟨x, e, k1⟩ := k.bind.ok (isStr_noexc _)
    cases isStr_ok e
    obtain ⟨rfl, o, l⟩ := r.str
    exact ⟨x, rfl, k1 _ G1 H1 g1 (it_str o l)⟩) fun _ z => z⟩
end
end Hr

end
section
/-! HrV: dicts of owned lists; an item of an owned list -/
namespace Hr
open PySem PySem.Spec L2
/-- the first thing under a key, changed -/
def updK : List (List Key) → List D → List Key → D → List D
  | q :: ks, x :: ds, k, d => if q = k then d :: ds else x :: updK ks ds k d
  | _, ds, _, _ => ds
theorem ows_at {K : Frag} {G H : Hp} {q : Key} {t : OT} : ∀ {kvs : List (Key × V)} {ds : List D} {fp : List Addr}, OWs K G H (kvs.map (·.2)) ds t fp → fp.Nodup → ∀ d, lookK (kvs.map fun p => [p.1]) ds [q] = some d →
    ∃ v fp1, valV kvs q = some v ∧ OW K G H v d t fp1 ∧ (∀ a ∈ fp1, a ∈ fp) ∧ ∀ (H' : Hp) (d' : D), (∀ a ∈ fp, a ∉ fp1 → ∀ o, H a = some o → H' a = some o) → OW K G H' v d' t fp1 → OWs K G H' (kvs.map (·.2)) (updK (kvs.map fun p => [p.1]) ds [q] d') t fp
  | [], _, _, .nil, _, _, h => by cases h
  | p :: kvs, d0 :: ds, _, .cons (fp := f1) (fq := f2) a b, nd, d, h => by
    obtain ⟨n1, n2, n3⟩ := List.nodup_append.mp nd
    have h : (if [p.1] = [q] then some d0 else lookK (kvs.map fun p => [p.1]) ds [q]) = some d := h
    by_cases e : p.1 = q
    · rw [if_pos (by rw [e])] at h
      cases h
      refine ⟨p.2, f1, valV_pos e, a, fun c m => List.mem_append_left _ m, fun H' d' keep ow => ?_⟩
      show OWs K G H' (p.2 :: kvs.map (·.2)) (if [p.1] = [q] then d' :: ds else d0 :: updK (kvs.map fun p => [p.1]) ds [q] d') t (f1 ++ f2)
      rw [if_pos (by rw [e])]
      exact .cons ow (b.mono (.refl _) fun c m o z => keep c (List.mem_append_right _ m) (fun m1 => n3 c m1 c m rfl) o z)
    · rw [if_neg (fun z => e (by injection z))] at h
      obtain ⟨v, fp1, e1, e2, e3, e4⟩ := ows_at b n2 d h
      refine ⟨v, fp1, by rw [valV_neg e]; exact e1, e2, fun c m => List.mem_append_right _ (e3 c m), fun H' d' keep ow => ?_⟩
      show OWs K G H' (p.2 :: kvs.map (·.2)) (if [p.1] = [q] then d' :: ds else d0 :: updK (kvs.map fun p => [p.1]) ds [q] d') t (f1 ++ f2)
      rw [if_neg (fun z => e (by injection z))]
      exact .cons (a.mono (.refl _) fun c m o z => keep c (List.mem_append_left _ m) (fun m1 => n3 c m c (e3 c m1) rfl) o z) (e4 H' d' (fun c m n => keep c (List.mem_append_right _ m) n) ow)
/-- a list in a dict of an owned slot -/
theorem Rel.onest {K : Frag} {B : Base} {Γ : Ow} {s : En} {G : Hp} {σ : St} {H : Hp} {i : Nat} {ks : List (List Key)} {ds es : List D} {q : Key} (r : Rel K B Γ s G σ H) (e : s[i]? = some (some (.dic false ks ds))) (ht : oty Γ i = .own (.own .fz)) (hq : lookK ks ds [q] = some (.lst es)) :
    ∃ a kvs b vs, σ[i]? = some (some (.ref a)) ∧ H a = some (.dK kvs) ∧ valV kvs q = some (.ref b) ∧ H b = some (.lst vs) ∧ vs.length ≤ sizeLine ∧ RDs K G vs es ∧
      ∀ vs' es', vs'.length ≤ sizeLine → RDs K G vs' es' → Rel K B Γ (s.set i (some (.dic false ks (updK ks ds [q] (.lst es'))))) G σ (upd H b (.lst vs')) := by
  obtain ⟨φ, sl, hf⟩ := r.sl
  obtain ⟨v, ev, ow⟩ := sl.at_ i _ e
  have nd := sl.nd i
  rw [ht] at ow
  generalize hφ : φ i = fp at ow nd
  cases ow with
  | @odK a kvs _ _ fq h l rs =>
    obtain ⟨n1, n2⟩ := List.nodup_cons.mp nd
    obtain ⟨v, fp1, e1, e2, e3, e4⟩ := ows_at rs n2 _ hq
    cases e2 with
    | @ol b vs _ _ fp2 hb lb rb =>
      obtain ⟨rb', e0⟩ := rb.unfz
      subst e0
      have hbm : b ∈ fq := e3 b (List.mem_cons_self ..)
      refine ⟨a, kvs, b, vs, ev, h, e1, hb, lb, rb', fun vs' es' l' r' => r.cell sl hf (by rw [hφ]; exact List.mem_cons_of_mem _ hbm) ev ?_⟩
      rw [ht, hφ]
      refine .odK (by rw [upd_ne (fun z => n1 (by rw [z]; exact hbm))]; exact h) l (e4 _ _ (fun c m n o z => by rw [upd_ne (fun w => n (by rw [w]; exact List.mem_cons_self ..))]; exact z) (.ol upd_same l' (OWs.fzs r')))
theorem OWs.append {K : Frag} {G H : Hp} {t : OT} : ∀ {vs ws : List V} {ds es : List D} {f1 f2 : List Addr}, OWs K G H vs ds t f1 → OWs K G H ws es t f2 → OWs K G H (vs ++ ws) (ds ++ es) t (f1 ++ f2)
  | _, _, _, _, _, _, .nil, r => r
  | _, _, _, _, _, f2, .cons (fp := fa) (fq := fb) a b, r => by rw [List.append_assoc]; exact .cons a (OWs.append b r)
/-- a list just made is put into a dict of an owned slot, under a new key -/
theorem Rel.oput {K : Frag} {B : Base} {Γ : Ow} {s : En} {G H G1 H1 G2 H2 : Hp} {σ : St} {i : Nat} {ks : List (List Key)} {ds : List D} {q : Key} {v : V} {d : D} {t : OT} (r : Rel K B Γ s G σ H) (e : s[i]? = some (some (.dic false ks ds))) (ht : oty Γ i = .own t)
    (g1 : Grow G H G1 H1) (n : New K H G1 H1 v d t) (g2 : Grow G1 H1 G2 H2) (hq : (ks.any fun z => decide (z = [q])) = false) (hl : ds.length < sizeLine) :
    ∃ a kvs, σ[i]? = some (some (.ref a)) ∧ H2 a = some (.dK kvs) ∧ kvs.length < sizeLine ∧ Rel K B Γ (s.set i (some (.dic false (ks ++ [[q]]) (ds ++ [d])))) G2 σ (upd H2 a (.dK (putK kvs q v))) := by
  obtain ⟨φ, sl, hf⟩ := r.sl
  have g := g1.trans g2
  have r2 := r.grow g
  obtain ⟨v0, ev, ow⟩ := sl.at_ i _ e
  have nd := sl.nd i
  rw [ht] at ow
  generalize hφ : φ i = fp at ow nd
  obtain ⟨fq, own, ndq, okq⟩ := n
  cases ow with
  | @odK a kvs _ _ fs h l rs =>
    obtain ⟨n1, n2⟩ := List.nodup_cons.mp nd
    have hkl : kvs.length = ds.length := by have := OWs.now (Z := H) r.GH (fun _ _ _ z => z) rs |>.length; simpa using this
    have ep : putK kvs q v = kvs ++ [(q, v)] := by
      unfold putK
      rw [if_neg]
      intro z
      obtain ⟨p, hp, hz⟩ := List.any_eq_true.mp z
      have := List.any_eq_false.mp hq [p.1] (List.mem_map.mpr ⟨p, hp, rfl⟩)
      exact this (decide_eq_true (by rw [of_decide_eq_true hz]))
    have ham : a ∈ φ i := by rw [hφ]; exact List.mem_cons_self ..
    have ga : G2 a = none := g.nw a (sl.ok i a ham).2 (sl.ok i a ham).1
    have h0 : B.H0 a = none := hf i a ham
    have dq : ∀ j c, c ∈ φ j → c ∉ fq := fun j c m m2 => (sl.ok j c m).1.ne (okq c m2).1
    have lives : ∀ c, Cel H c → Cel H2 c := fun c hc => hc.mono g.h
    have lives1 : ∀ c, Cel H1 c → Cel H2 c := fun c hc => hc.mono g2.h
    refine ⟨a, kvs, ev, g.h _ _ h, by omega, ⟨by rw [List.length_set]; exact r.len, ⟨fun j => if j = i then a :: (fs ++ fq) else φ j, ⟨fun j d' q1 => ?_, fun j => ?_, fun j k c m m2 => ?_, fun j c m => ?_⟩, fun j c m => ?_⟩, fun b o z => ?_, r2.hG, fun b o z => ?_, r2.fr⟩⟩
    · rcases getElem?_set_cases q1 with ⟨rfl, e'⟩ | ⟨ne, e'⟩
      · cases e'
        (try dsimp only)
        rw [if_pos rfl, ht, ep]
        refine ⟨_, ev, ?_⟩
        have : ((kvs.map fun p => [p.1]) ++ [[q]]) = ((kvs ++ [(q, v)]).map fun p => [p.1]) := by rw [List.map_append]; rfl
        rw [this]
        refine .odK upd_same (by rw [List.length_append]; show kvs.length + 1 ≤ _; omega) ?_
        rw [List.map_append]
        refine OWs.append (rs.mono g.g fun c m o z => ?_) ?_
        · rw [upd_ne fun w => n1 (by rw [← w]; exact m)]; exact g.h c o z
        · have hv : OW K G2 (upd H2 a (.dK (kvs ++ [(q, v)]))) v d t fq := own.mono g2.g fun c m o z => by
            rw [upd_ne fun w => dq j a ham (by rw [← w]; exact m)]; exact g2.h c o z
          have := OWs.cons hv (OWs.nil (t := t))
          rw [List.append_nil] at this
          exact this
      · (try dsimp only)
        rw [if_neg ne]
        obtain ⟨v', q2, o⟩ := sl.at_ j d' e'
        exact ⟨v', q2, o.mono g.g fun b m o' z => by rw [upd_ne fun w => ne (sl.dj j i b m (by rw [w]; exact ham))]; exact g.h b o' z⟩
    · (try dsimp only)
      split
      · refine List.nodup_cons.mpr ⟨fun m => ?_, List.nodup_append.mpr ⟨n2, ndq, fun c m c2 m2 z => ?_⟩⟩
        · rcases List.mem_append.mp m with m | m
          · exact n1 m
          · exact dq i a ham m
        · subst z
          exact dq i c (by rw [hφ]; exact List.mem_cons_of_mem _ m) m2
      · exact sl.nd j
    · (try dsimp only at m m2)
      have key : ∀ j' c', j' ≠ i → c' ∈ φ j' → c' ∉ a :: (fs ++ fq) := fun j' c' hne mm z => by
        rcases List.mem_cons.mp z with rfl | z
        · exact hne (sl.dj j' i _ mm ham)
        · rcases List.mem_append.mp z with z | z
          · exact hne (sl.dj j' i _ mm (by rw [hφ]; exact List.mem_cons_of_mem _ z))
          · exact dq j' c' mm z
      split at m <;> split at m2
      · rename_i h1 h2; rw [h1, h2]
      · rename_i h1 h2; exact absurd m (key k c h2 m2)
      · rename_i h1 h2; exact absurd m2 (key j c h1 m)
      · exact sl.dj j k c m m2
    · have live : Cel H2 c ∧ G2 c = none := by
        (try dsimp only at m)
        split at m
        · rcases List.mem_cons.mp m with rfl | m
          · exact ⟨lives _ (sl.ok i _ ham).1, ga⟩
          · rcases List.mem_append.mp m with m | m
            · have := sl.ok i c (by rw [hφ]; exact List.mem_cons_of_mem _ m)
              exact ⟨lives c this.1, g.nw c this.2 this.1⟩
            · obtain ⟨o1, o2, o3⟩ := okq c m
              exact ⟨lives1 c o2, g2.nw c o3 o2⟩
        · have := sl.ok j c m
          exact ⟨lives c this.1, g.nw c this.2 this.1⟩
      refine ⟨?_, live.2⟩
      by_cases w : c = a
      · subst w; exact ⟨_, upd_same, fun _ z => nomatch z⟩
      · obtain ⟨o, h1, h2⟩ := live.1; exact ⟨o, by rw [upd_ne w]; exact h1, h2⟩
    · (try dsimp only at m)
      split at m
      · rcases List.mem_cons.mp m with rfl | m
        · exact h0
        · rcases List.mem_append.mp m with m | m
          · exact hf i c (by rw [hφ]; exact List.mem_cons_of_mem _ m)
          · exact r.hH.free (okq c m).1
      · exact hf j c m
    · rw [upd_ne (ne_of_none z h0)]; exact r2.hH b o z
    · rw [upd_ne (ne_of_none z ga)]; exact r2.GH b o z
section
variable {X : Cx} {B : Base} {W : WX} {Γ Γ1 Γn : Ow} {o : OC} {e a b c : Expr} {fa fb fc fe fk : En → R D} {pos : Pos}
/-- the dict at slot i, read at a key -/
def eSub2 (i : Nat) (fk : En → R D) : En → R D := fun s => R.of (dicAt s i) >>= fun q => fk s >>= fun dk => R.of ((keyOf q.1 dk).bind fun k => if q.1 = false then match lookK q.2.1 q.2.2 k with | some (.lst ds) => some (.lst ds) | _ => none else none)
theorem keyOf_false {d : D} {k : List Key} (h : keyOf false d = some k) : ∃ q, k = [q] := by
  cases d <;> first | (cases h; exact ⟨_, rfl⟩) | cases h
theorem eb_sub2 {i : Nat} {x : Str} {p : Pos} {ke : Expr} (hu : X.A.units + 1 < cLine) (ho : oty Γ i = .own (.own .fz)) (hN : X.N[i]? = some x) (hv : Vis X.env.scope x) (h1 : (x == ("__debug__" : Str)) = false) (h2 : (x == ("__classdict__" : Str)) = false) (hs : PlainIx ke) (hk : EV X B W Γ ke fk) :
    EB X B W Γ (.Subscript (.Name x p) ke pos) (eSub2 i fk) :=
  PE.imp (pe_ix (ix_dict hu) (pe_var hN hv h1 h2) hk hs) fun σ H Q ⟨s, G, rl, k⟩ => by
    obtain ⟨q, eq, k⟩ := k.bind.opt
    obtain ⟨t, ks, ds⟩ := q
    obtain ⟨v0, ev, _, _⟩ := rl.now (dicAt_ok eq)
    refine ⟨v0, ev, s, G, rl, k.bind.imp (fun dk _ k y G1 H1 g1 ry => ?_) fun _ z => z⟩
    obtain ⟨r, er, k⟩ := k.opt
    cases hk : keyOf t dk with
    | none => rw [hk] at er; cases er
    | some kk =>
      rw [hk] at er
      cases t with
      | true => cases er
      | false =>
        have er : (match lookK ks ds kk with | some (.lst ds) => some (D.lst ds) | _ => none) = some r := er
        split at er
        · rename_i es hl
          cases er
          obtain ⟨kq, rfl, rfl⟩ := keyOf_K ry hk
          obtain ⟨a, kvs, b, vs, ea, hH, hb, hbl, lb, rb, _⟩ := (rl.grow g1).onest (dicAt_ok eq) ho hl
          have : v0 = .ref a := by rw [ev] at ea; cases ea; rfl
          subst this
          refine ⟨a, .ref b, rfl, by rw [← hb]; exact .k hH, ?_⟩
          exact k (.ref b) G1 H1 g1 (.ol hbl lb rb)
        · cases er
/-- x[k].append(e) -/
def sApp2 (i : Nat) (fk fe : En → R D) : En → Out := fun s => optO (dicAt s i) fun q => (fk s).go s fun dk => optO ((keyOf q.1 dk).bind fun k => if q.1 = false then match lookK q.2.1 q.2.2 k with | some (.lst ds) => some (k, ds) | _ => none else none) fun z =>
  (fe s).go s fun d => if z.2.length < sizeLine then .nx (s.set i (some (.dic false q.2.1 (updK q.2.1 q.2.2 z.1 (.lst (z.2 ++ [d])))))) else .stuck
theorem sv_app2 {i : Nat} {x : Str} {p p2 apos cpos : Pos} {ke : Expr} (hu : X.A.units + 1 < cLine) (lx : leO Γ o.x) (ho : oty Γ i = .own (.own .fz)) (hN : X.N[i]? = some x) (hv : Vis X.env.scope x) (h1 : (x == ("__debug__" : Str)) = false) (h2 : (x == ("__classdict__" : Str)) = false) (hsl : PlainIx ke)
    (hl : (apos.endLine == cpos.line) = true) (hs : noStar e = true) (hk : EV X B W Γ ke fk) (he : EV X B W Γ e fe) : SV X B W Γ Γ o (.Expr (.Call (.Attribute (.Subscript (.Name x p) ke p2) "append" apos) [e] [] cpos) pos) (sApp2 i fk fe) := by
  have pa : PA X [e] (tCons (tV X.K B W Γ fe) tNil) := pa_cons he pa_nil (noStar_ok hs _ _)
  refine PS.imp (ps_expr (pe_bm PySem.F.plainAttrs_list PySem.F.slot_list_append PySem.F.type_list_append mt_append (pe_ix (ix_dict hu) (pe_var hN hv h1 h2) hk hsl) pa (base_ok rfl _ _ _) (few_ok (by simp [hs]) (by simp)) hl (noStar_ok hs _ _) rfl) rfl) fun Dn σ H ⟨s, G, rl, k⟩ => ?_
  unfold sApp2 at k
  cases q : dicAt s i with
  | none => rw [q] at k; exact k.elim
  | some tkd =>
    obtain ⟨t, ks, ds⟩ := tkd
    rw [q] at k
    obtain ⟨v0, ev, _, _⟩ := rl.now (dicAt_ok q)
    refine ⟨v0, ev, s, G, rl, (Fin.go rl lx k).imp (fun dk _ k y G1 H1 g1 ry => ?_) fun _ z => z⟩
    have rl1 := rl.grow g1
    have k := k.mono g1.g
    cases hk : keyOf t dk with
    | none => rw [hk] at k; exact k.elim
    | some kk =>
      rw [hk] at k
      cases t with
      | true => exact k.elim
      | false =>
        cases hz : (match lookK ks ds kk with | some (.lst ds) => some (kk, ds) | _ => none : Option (List Key × List D)) with
        | none =>
          have k : Fin X.K B W Γ o G1 Dn (optO (match lookK ks ds kk with | some (.lst ds) => some (kk, ds) | _ => none : Option (List Key × List D)) _) := k
          rw [hz] at k; exact k.elim
        | some z =>
          have k : Fin X.K B W Γ o G1 Dn (optO (match lookK ks ds kk with | some (.lst ds) => some (kk, ds) | _ => none : Option (List Key × List D)) fun z => (fe s).go s fun d => if z.2.length < sizeLine then .nx (s.set i (some (.dic false ks (updK ks ds z.1 (.lst (z.2 ++ [d])))))) else .stuck) := k
          rw [hz] at k
          split at hz
          · rename_i es hlk
            cases hz
            obtain ⟨kq, rfl, rfl⟩ := keyOf_K ry hk
            obtain ⟨a, kvs, b, vs, ea, hH, hb, hbl, lb, rb, _⟩ := rl1.onest (dicAt_ok q) ho hlk
            have : v0 = .ref a := by rw [ev] at ea; cases ea; rfl
            subst this
            refine ⟨a, .ref b, rfl, by rw [← hb]; exact .k hH, .inl ⟨rfl, vs, .inl (.inl hbl)⟩, s, G1, rl1, (Fin.go rl1 lx k).imp (fun d _ k v G2 H2 g2 rv => ?_) fun _ z => z⟩
            have k : Fin X.K B W Γ o G1 Dn (if es.length < sizeLine then _ else _) := k
            by_cases hlt : es.length < sizeLine
            · rw [if_pos hlt] at k
              obtain ⟨a', kvs', b', vs', ea', hH', hb', hbl', lb', rb', up⟩ := (rl1.grow g2).onest (dicAt_ok q) ho hlk
              have e1 : a' = a := by rw [ev] at ea'; cases ea'; rfl
              subst e1
              have e2 : kvs' = kvs := by have := g2.h _ _ hH; rw [hH'] at this; cases this; rfl
              subst e2
              have e3 : b' = b := by rw [hb] at hb'; cases hb'; rfl
              subst e3
              refine ⟨b', vs', v, rfl, rfl, hbl', by rw [rb'.length]; exact hlt, ?_⟩
              exact k σ G2 _ g2.g (up (vs' ++ [v]) (es ++ [d]) (by rw [List.length_append, rb'.length]; exact hlt) (rb'.append (.cons rv .nil)))
            · rw [if_neg hlt] at k; exact k.elim
          · cases hz
/-- x[k] = e, e a list just made, k a new key -/
def sPuo (i : Nat) (fk fe : En → R D) : En → Out := fun s => (fe s).go s fun d => optO (dicAt s i) fun q => (fk s).go s fun dk => optO (if q.1 = false then keyOf false dk else none) fun k => if (q.2.1.any fun z => decide (z = k)) = false ∧ q.2.2.length < sizeLine then .nx (s.set i (some (.dic false (q.2.1 ++ [k]) (q.2.2 ++ [d])))) else .stuck
theorem sv_puo {i : Nat} {x : Str} {p pos' : Pos} {ke : Expr} {t : OT} (hu : X.A.units + 1 < cLine) (lx : leO Γ o.x) (ho : oty Γ i = .own t) (hN : X.N[i]? = some x) (hv : Vis X.env.scope x) (h1 : (x == ("__debug__" : Str)) = false) (h2 : (x == ("__classdict__" : Str)) = false)
    (hs : swapsWith e (some (.Subscript (.Name x p) ke pos')) pos.line X.env = pure false) (hk : EV X B W Γ ke fk) (he : EO X B W Γ t e fe) : SV X B W Γ Γ o (.Assign [.Subscript (.Name x p) ke pos'] e pos) (sPuo i fk fe) := by
  refine PS.imp (ps_dput hu (pe_var hN hv h1 h2) hk he hs) fun Dn σ H ⟨s, G, rl, k⟩ => ⟨s, G, rl, (Fin.go rl lx k).imp (fun d _ k v G1 H1 g1 nw => ?_) fun _ z => z⟩
  cases q : dicAt s i with
  | none => rw [q] at k; exact k.elim
  | some tkd =>
    obtain ⟨t, ks, ds⟩ := tkd
    rw [q] at k
    have rl1 := rl.grow g1
    obtain ⟨v0, ev0, _, _⟩ := rl1.now (dicAt_ok q)
    have k := k.mono g1.g
    refine ⟨v0, ev0, s, G1, rl1, (Fin.go rl1 lx k).imp (fun dk _ k y G2 H2 g2 ry => ?_) fun _ z => z⟩
    have k := k.mono g2.g
    cases t with
    | true => exact k.elim
    | false =>
      have k : Fin X.K B W Γ o G2 Dn (optO (keyOf false dk) fun k => if (ks.any fun z => decide (z = k)) = false ∧ ds.length < sizeLine then .nx (s.set i (some (.dic false (ks ++ [k]) (ds ++ [d])))) else .stuck) := k
      cases hk : keyOf false dk with
      | none => rw [hk] at k; exact k.elim
      | some kk =>
        rw [hk] at k
        dsimp only [optO] at k
        by_cases hc : (ks.any fun z => decide (z = kk)) = false ∧ ds.length < sizeLine
        · rw [if_pos hc] at k
          obtain ⟨kq, rfl, rfl⟩ := keyOf_K ry hk
          obtain ⟨a, kvs, ea, hH, hl, rn⟩ := rl.oput (dicAt_ok q) ho g1 nw g2 hc.1 hc.2
          have : v0 = .ref a := by rw [ev0] at ea; cases ea; rfl
          subst this
          exact ⟨a, _, rfl, .k hH hl, k σ G2 _ (.refl _) rn⟩
        · rw [if_neg hc] at k; exact k.elim
theorem eo_dnew2 {t : OT} : EO X B W Γ (.own t) (.Dict [] [] pos) (eCon (.dic false [] [])) := by
  refine PE.imp pe_dnewK fun σ H Q ⟨s, G, rl, k⟩ => ?_
  intro d hd
  refine k (.ref d) G _ ⟨.refl _, Same.upd hd, rl.GH.trans (Same.upd hd), fun _ h _ => h⟩ ⟨[d], .odK (kvs := []) upd_same (Nat.zero_le _) .nil, by simp, fun a m => ?_⟩
  have : a = d := by simpa using m
  subst this
  exact ⟨hd, ⟨_, upd_same, fun _ z => nomatch z⟩, rl.GH.free hd⟩
/-- x[j] = e, x a list -/
def sLput (i : Nat) (fj fe : En → R D) : En → Out := fun s => (fe s).go s fun d => optO (lstAt s i) fun ds => (fj s).go s fun dj => match dj with
  | .int z => optO (ixN ds.length z) fun n => .nx (s.set i (some (.lst (ds.set n d))))
  | _ => .stuck
theorem RDs.set {K : Frag} {G : Hp} {v : V} {d : D} (h : RD K G v d) : ∀ {vs : List V} {ds : List D} (n : Nat), RDs K G vs ds → RDs K G (vs.set n v) (ds.set n d)
  | _, _, _, .nil => .nil
  | _, _, 0, .cons _ b => .cons h b
  | _, _, n + 1, .cons a b => .cons a (RDs.set h n b)
def tLput (td ty tv : TE) : TS := fun D σ H => tv σ H fun v H1 => td σ H1 fun x H2 => ty σ H2 fun y H3 => rSetL x y v H3 fun H4 => D.nx σ H4
theorem ps_lput {q i value : Expr} {td ty tv : TE} {pos pos' : Pos} (ho : PE X q td) (hi : PE X i ty) (hv : PE X value tv) (hs : swapsWith value (some (.Subscript q i pos')) pos.line X.env = pure false) : PS X (.Assign [.Subscript q i pos'] value pos) (tLput td ty tv) :=
  ⟨fun pins s σ H Dn I h => wpAny_Assign_Subscript (thn (hv.run pins s σ H _ I h) fun r s1 ⟨v, H1, I1, rv, q1⟩ => thn (ho.run pins s1 σ H1 _ I1 q1) fun u s2 ⟨x, H2, I2, rx, q2⟩ => thn (hi.run pins s2 σ H2 _ I2 q2) fun iv s3 ⟨y, H3, I3, ry, q3⟩ =>
    thn (set_list pins s3 σ H3 x y v u iv r _ I3 rx ry rv q3) fun _ s4 ⟨H4, I4, q4⟩ => ⟨σ, H4, I4, q4⟩) hs⟩
theorem sv_lput {i : Nat} {x : Str} {p pos' : Pos} {je : Expr} {fj : En → R D} (lx : leO Γ o.x) (ho : oty Γ i = .own .fz) (hN : X.N[i]? = some x) (hv : Vis X.env.scope x) (h1 : (x == ("__debug__" : Str)) = false) (h2 : (x == ("__classdict__" : Str)) = false)
    (hs : swapsWith e (some (.Subscript (.Name x p) je pos')) pos.line X.env = pure false) (hj : EV X B W Γ je fj) (he : EV X B W Γ e fe) : SV X B W Γ Γ o (.Assign [.Subscript (.Name x p) je pos'] e pos) (sLput i fj fe) := by
  refine PS.imp (ps_lput (pe_var hN hv h1 h2) hj he hs) fun Dn σ H ⟨s, G, rl, k⟩ => ⟨s, G, rl, (Fin.go rl lx k).imp (fun d _ k v G1 H1 g1 rv => ?_) fun _ z => z⟩
  cases q : lstAt s i with
  | none => rw [q] at k; exact k.elim
  | some ds =>
    rw [q] at k
    have rl1 := rl.grow g1
    obtain ⟨v0, ev0, _, _⟩ := rl1.now (lstAt_ok q)
    have k := k.mono g1.g
    refine ⟨v0, ev0, s, G1, rl1, (Fin.go rl1 lx k).imp (fun dj _ k y G2 H2 g2 ry => ?_) fun _ z => z⟩
    have k := k.mono g2.g
    cases dj with
    | int z =>
      have k : Fin X.K B W Γ o G2 Dn (optO (ixN ds.length z) fun n => .nx (s.set i (some (.lst (ds.set n d))))) := k
      cases hn : ixN ds.length z with
      | none => rw [hn] at k; exact k.elim
      | some n =>
        rw [hn] at k
        obtain ⟨a, vs, ev, hH, l, rs, up⟩ := (rl1.grow g2).olist (lstAt_ok q) ho
        have : v0 = .ref a := by rw [ev0] at ev; cases ev; rfl
        subst this
        refine ⟨a, vs, z, n, rfl, ry.int_inv, hH, by rw [rs.length]; exact hn, ?_⟩
        exact k σ G2 _ (.refl _) (up (vs.set n v) (ds.set n d) (by rw [List.length_set]; exact l) (RDs.set (rv.mono g2.g) n rs))
    | _ => exact k.elim
end
end Hr

end
section
/-! HrW: texts: str(int), split, f-strings of two numbers, c + x.replace(y, z) -/
namespace Hr
open PySem PySem.Spec L2
theorem strOk_ofString (s : String) : PyData.strOk (Str.ofString s) = true := by
  rw [strOk_list]
  intro c hc
  have e : (Str.ofString s).cps.toList = s.toList.map Char.toNat := PyProof.Rows.signs_ofString s
  rw [e] at hc
  obtain ⟨ch, _, rfl⟩ := List.mem_map.mp hc
  rcases ch.valid with h | ⟨_, h⟩
  · have : ch.toNat < 0xd800 := h
    omega
  · exact h
def partsOk (ys : List Str) : Bool := ys.all fun p => PyData.strOk p && decide (p.length ≤ sizeLine)
def dSplit : D → D → R D
  | .str a, .str b => if ((b.length != 0) && decide (a.length + 2 ≤ sizeLine)) && (partsOk (Txt.split a b) && decide ((Txt.split a b).length ≤ sizeLine)) then .ok (.lst ((Txt.split a b).map D.str)) else .stuck
  | _, _ => .stuck
theorem dSplit_noexc (x y : D) (c : Str) : dSplit x y ≠ .exc c := by unfold dSplit; split <;> first | (split <;> exact fun z => nomatch z) | exact fun z => nomatch z
theorem rds_strs {K : Frag} {G : Hp} : ∀ {ys : List Str}, partsOk ys = true → RDs K G (ys.map V.str) (ys.map D.str)
  | [], _ => .nil
  | y :: ys, h => by
    obtain ⟨h1, h2⟩ := and2 (show ((PyData.strOk y && decide (y.length ≤ sizeLine)) && partsOk ys) = true from h)
    obtain ⟨a, b⟩ := and2 h1
    exact .cons (.str y a (of_decide_eq_true b)) (rds_strs h2)
section
variable {X : Cx} {B : Base} {W : WX} {Γ : Ow} {a b : Expr} {fa fb : En → R D} {pos : Pos}
theorem ev_split {apos cpos : Pos} (hn : notSuper a = true) (hl : (apos.endLine == cpos.line) = true) (hs : noStar b = true) (ha : EB X B W Γ a fa) (hb : EB X B W Γ b fb) : EV X B W Γ (.Call (.Attribute a "split" apos) [b] [] cpos) (eM1 dSplit fa fb) :=
  PE.imp (pe_split ha hb (noStar_ok hs _ _) (base_ok2 hn _ _ _) hl) (m1_read dSplit_noexc fun a y dy d G H Q e o1 l1 ry h k => by
    cases dy with
    | str b =>
      have h : (if (((b.length != 0) && decide (a.length + 2 ≤ sizeLine)) && (partsOk (Txt.split a b) && decide ((Txt.split a b).length ≤ sizeLine))) = true then R.ok (D.lst ((Txt.split a b).map D.str)) else .stuck) = .ok d := h
      split at h
      · rename_i c
        cases h
        obtain ⟨c1, c2⟩ := and2 c
        obtain ⟨c3, c4⟩ := and2 c1
        obtain ⟨c5, c6⟩ := and2 c2
        obtain ⟨rfl, _, _⟩ := ry.str
        refine ⟨a, b, rfl, rfl, by simpa using c3, of_decide_eq_true c4, fun p hp => ?_⟩
        obtain ⟨g, r⟩ := new_lst e hp (by rw [List.length_map]; exact of_decide_eq_true c6) (rds_strs (K := X.K) (G := G) c5)
        exact k _ _ _ g r
      · cases h
    | _ => cases h)
/-! str(int) -/
def dStr : D → R D
  | .int i => if i.natAbs.log2 < 1920 then .ok (.str (toString i)) else .stuck
  | _ => .stuck
theorem dStr_noexc (x : D) (c : Str) : dStr x ≠ .exc c := by unfold dStr; split <;> first | (split <;> exact fun z => nomatch z) | exact fun z => nomatch z
theorem rd_num {K : Frag} {G : Hp} {i : Int} (h : i.natAbs.log2 < 1920) : RD K G (.str (toString i)) (.str (toString i)) := .str _ (strOk_ofString _) (int_text_fits h)
theorem cd_str {K : Frag} : CallD K (fun xs H Q => ∃ i, xs = [.int i] ∧ i.natAbs.log2 < 1920 ∧ Q (.str (toString i)) H) (on1 dStr) .fz := calld1 fun x dx d G H Q e r hg k => by
  cases dx with
  | int i =>
    have hg : (if i.natAbs.log2 < 1920 then R.ok (D.str (toString i)) else .stuck) = .ok d := hg
    by_cases h : i.natAbs.log2 < 1920
    · rw [if_pos h] at hg
      cases hg
      cases r.int
      exact ⟨i, rfl, h, k _ G H (.refl e) (.fz (rd_num h))⟩
    · rw [if_neg h] at hg; cases hg
  | _ => cases hg
/-! f'{a}c{b}' -/
def isInt : D → R Int
  | .int i => if i.natAbs.log2 < 1920 then .ok i else .stuck
  | _ => .stuck
theorem isInt_noexc (x : D) (c : Str) : isInt x ≠ .exc c := by unfold isInt; split <;> first | (split <;> exact fun z => nomatch z) | exact fun z => nomatch z
theorem isInt_ok {x : D} {i : Int} (h : isInt x = .ok i) : x = .int i ∧ i.natAbs.log2 < 1920 := by
  unfold isInt at h
  split at h
  · split at h
    · cases h; exact ⟨rfl, by assumption⟩
    · cases h
  · cases h
def fTwo (c : Str) (i j : Int) : Str := ((Str.empty ++ (toString i : String)) ++ c) ++ (toString j : String)
def eFst (c : Str) (fa fb : En → R D) : En → R D := fun s => fa s >>= fun x => isInt x >>= fun i => if PyData.strOk c = true ∧ ((Str.empty ++ (toString i : String)) ++ c).length ≤ sizeLine then fb s >>= fun y => isInt y >>= fun j => if (fTwo c i j).length ≤ sizeLine then .ok (.str (fTwo c i j)) else .stuck else .stuck
theorem strOk_empty : PyData.strOk Str.empty = true := by decide +kernel
theorem ev_fst {c : Str} {kk : Nat} {p1 p2 p3 : Pos} (ha : EB X B W Γ a fa) (hb : EB X B W Γ b fb) : EV X B W Γ (.JoinedStr [.FormattedValue a (-1) none p1, .Constant (.str c) kk p2, .FormattedValue b (-1) none p3] pos) (eFst c fa fb) :=
  PE.imp (pe_joined (.cons (pe_fmt ha) (.cons pe_str (.cons (pe_fmt hb) .nil)))) fun σ H Q ⟨s, G, rl, k⟩ => ⟨s, G, rl, k.bind.imp (fun dx _ k x G1 H1 g1 rx => by
    obtain ⟨i, ei, k1⟩ := k.bind.ok (isInt_noexc _)
    clear k
    obtain ⟨rfl, hi⟩ := isInt_ok ei
    cases rx.int
    obtain ⟨⟨oc, lc⟩, k2⟩ := k1.ite
    refine .inr ⟨i, rfl, hi, (toString i : String), rfl, by
      rw [length_append_str] at lc
      omega, c, rfl, lc, s, G1, rl.grow g1, k2.bind.imp (fun dy _ k3 y G2 H2 g2 ry => ?_) fun _ z => XW.grow g1 z⟩
    obtain ⟨j, ej, k4⟩ := k3.bind.ok (isInt_noexc _)
    clear k3
    obtain ⟨rfl, hj⟩ := isInt_ok ej
    cases ry.int
    obtain ⟨lt, k⟩ := k4.ite
    refine .inr ⟨j, rfl, hj, (toString j : String), rfl, lt, ?_⟩
    exact k _ G2 H2 (g1.trans g2) (.str _ (strOk_append (strOk_append (strOk_append strOk_empty (strOk_ofString _)) oc) (strOk_ofString _)) lt)) fun _ z => z⟩
/-! c + x.replace(y, z) -/
def eRep (c y z : Str) (fa : En → R D) : En → R D := fun s => fa s >>= fun x => isStr x >>= fun a => if (a.length + (a.length + 1) * z.length ≤ 16777216 ∧ (y == z) = false) ∧ (PyData.strOk (c ++ Txt.replace a y z) = true ∧ c.length + (Txt.replace a y z).length ≤ sizeLine) then .ok (.str (c ++ Txt.replace a y z)) else .stuck
def tQrep (c y z : Str) (to : TE) : TE := fun σ H Q => to σ H fun x H1 => ∃ a, x = .str a ∧ a.length + (a.length + 1) * z.length ≤ 16777216 ∧ (y == z) = false ∧ c.length + (Txt.replace a y z).length ≤ sizeLine ∧ Q (.str (c ++ Txt.replace a y z)) H1
theorem pe_qrep {c y z : Str} {to : TE} {k0 j1 j2 : Nat} {p0 p1 p2 apos cpos : Pos} (ho : PE X a to) (hb : attributeBase a "replace" X.env (eval a X.env) = eval a X.env) (hl : (apos.endLine == cpos.line) = true) :
    PE X (.BinOp (.Constant (.str c) k0 p0) .Add (.Call (.Attribute a "replace" apos) [.Constant (.str y) j1 p1, .Constant (.str z) j2 p2] [] cpos) pos) (tQrep c y z to) := by
  refine ⟨fun pins s σ H Q I h => wpAny_BinOp (Calls.Constant_str ?_)⟩
  have I0 : Inv X pins σ H { s with toks := s.toks + 1 } := I.tok _
  refine PySem.Call_method2 hb rfl hl (wpAny_mono (wpAny_toks (ho.run pins _ σ H _ I0 h)) (fun v s1 q => ?_) fun _ _ x => x.2)
  obtain ⟨hk, x, H1, I1, r1, a, rfl, h1, h2, h3, q⟩ := q
  have hk : s.toks + 1 ≤ s1.toks := hk
  obtain ⟨tx, rfl⟩ := r1
  refine ⟨"str", _, PySem.F.plainAttrs_str, PySem.F.slot_str_replace, PySem.F.type_str_replace, typeIs_str _ _ _, (fun _ e => nomatch e), Calls.callWith_builtin rfl (Calls.evalArgs_plain (Calls.spliced_cons ?_))⟩
  refine Calls.Constant_str (Calls.spliced_cons (Calls.Constant_str (Calls.spliced_nil ?_)))
  refine PySem.SC.replace (by show s1.toks ≠ 0; omega) (by show s1.toks + 1 ≠ 0; omega) (by show s1.toks ≠ s1.toks + 1; omega) h2 h1 fun t' k => ?_
  exact op_add_str pins _ σ H1 (.str c) (.str (Txt.replace a y z)) _ _ Q (I1.tok k) ⟨_, rfl⟩ ⟨t', rfl⟩ ⟨c, Txt.replace a y z, rfl, rfl, h3, q⟩
theorem ev_qrep {c y z : Str} {k0 j1 j2 : Nat} {p0 p1 p2 apos cpos : Pos} (hn : notSuper a = true) (hl : (apos.endLine == cpos.line) = true) (ha : EB X B W Γ a fa) :
    EV X B W Γ (.BinOp (.Constant (.str c) k0 p0) .Add (.Call (.Attribute a "replace" apos) [.Constant (.str y) j1 p1, .Constant (.str z) j2 p2] [] cpos) pos) (eRep c y z fa) :=
  PE.imp (pe_qrep ha (base_ok2 hn _ _ _) hl) fun σ H Q ⟨s, G, rl, k⟩ => ⟨s, G, rl, k.bind.imp (fun dx _ k x G1 H1 g1 rx => by
    obtain ⟨a, e, k1⟩ := k.bind.ok (isStr_noexc _)
    clear k
    cases isStr_ok e
    obtain ⟨rfl, _, _⟩ := rx.str
    obtain ⟨⟨⟨h1, h2⟩, h3, h4⟩, k⟩ := k1.ite
    exact ⟨a, rfl, h1, h2, h4, k _ G1 H1 g1 (.str _ h3 (by rw [length_append_str]; exact h4))⟩) fun _ z => z⟩
end
end Hr

end
section
/-! HrX: sorted(set(xs)), xs a list of ints; xs[::-1] -/
namespace Hr
open PySem PySem.Spec L2 PyProof.Rows
section
variable {prog : Program} {w : World} {A : Around} {E : Value → Shared → Prop} {s : Shared}
abbrev ledSet (w : World) : Obj := { cls := .type "set", dict := none, data := .set #[] 0 (.fresh 0 0 (!w.params.followText "set-order")) }
set_option maxHeartbeats 3200000 in
/-- set(xs), xs a list of ints -/
theorem call_setI {l : Addr} {items : Array Value} {ns : List Int} {Q : Value → Shared → Prop} (hh : A.handled = none) (hl : s.heap.IsList l items) (hit : IntsAre items.toList ns) (hb : ns.length + 1 < scanBound)
    (h : ∀ (h' : Heap) (tk c : Nat), SetR w h' s.heap.objs.size (fun j => decide (j ∈ ns)) c → c ≤ ns.length → (∀ b o, b < s.heap.objs.size → s.heap.get? b = some o → h'.get? b = some o) → Q (.ref s.heap.objs.size) { s with heap := h', toks := tk }) :
    wpAny (model prog w) A (call (.type "set") [.ref l]) Q E s := by
  have hn : items.size = ns.length := by rw [← IntsAre.length hit, Array.length_toList]
  have hv : ∀ (i : Nat) (v : Value), items[i]? = some v → ∃ k t, ns[i]? = some k ∧ v = .int k t := fun i v e => by
    have e2 : items.toList[i]? = some v := by rw [Array.getElem?_toList]; exact e
    clear e hn h hb hl
    generalize items.toList = us at hit e2
    induction hit generalizing i with
    | nil => simp at e2
    | cons k t _ ih =>
      cases i with
      | zero => simp at e2; exact ⟨k, t, rfl, e2.symm⟩
      | succ i => simpa using ih i (by simpa using e2)
  obtain ⟨c0, tl0, hmro⟩ := PySem.F.called_set.mro
  have mk := PySem.F.called_set.made
  have sb := PySem.F.called_set.sub
  refine wpAny_call (codeAny_of_tree ?_)
  show wpAny _ _ (callAny (.type "set") _) _ _ _
  refine wpAny_pure ⟨Code.quiet_builtin _ (by decide +kernel), codeAny_builtin PySem.F.entry_type_call ?_⟩
  rw [Around.under_plain (weight_type_call_type "set" [.ref l] []) rfl]
  have t1 := PySem.F.called_set.notType
  have t2 := PySem.F.called_set.canCreate
  have t3 := PySem.F.typeCall_set_1 (.ref l)
  repeat (any_goals (first | assumption | wp_step))
  refine codeAny_mono (code_set_led1 (.ref l) (E := E) (Q₁ := fun ob s1 => ob = .ref s.heap.objs.size ∧ s1 = { s with heap := s.heap.push (ledSet w) }) ⟨rfl, rfl⟩) fun r1 s1 hr => ?_
  cases r1 with
  | error e => exact hr
  | ok fl =>
    cases fl with
    | ret ob =>
      obtain ⟨rfl, rfl⟩ := hr
      have gS : (s.heap.push (ledSet w)).get? s.heap.objs.size = some (ledSet w) := Heap.get?_push_size _ rfl
      have tS : Shared.TypeIs { s with heap := s.heap.push (ledSet w) } (.ref s.heap.objs.size) "set" := ⟨_, gS, rfl⟩
      have i1 := PySem.F.called_set.init.lookup
      have i2 := PySem.F.called_set.init.bind (.ref s.heap.objs.size)
      repeat (any_goals (first | assumption | wp_step))
      refine codeAny_mono (codeAny_call_builtin (R := wants (fun r s2 => r = .none ∧ ∃ h' tk c, s2 = { s with heap := h', toks := tk } ∧ SetR w h' s.heap.objs.size (fun j => decide (j ∈ ns)) c ∧ c ≤ ns.length ∧
          (∀ b o, b < s.heap.objs.size → s.heap.get? b = some o → h'.get? b = some o)) E) PySem.F.called_set.init.plain PySem.F.entry_set_init (check_set_init_1 tS ?_)) fun r2 s2 hr2 => ?_
      · obtain ⟨⟨oc, od, oda, osl⟩, hol, hcl, nl, hdl⟩ := hl
        simp only at hcl hdl
        subst hcl hdl
        have hol2 : (s.heap.push (ledSet w)).get? l = some { cls := .type "list", dict := od, data := .seq items nl, slots := osl } := Heap.get?_push_of_some _ hol
        have n1 := PySem.F.sub_list_set
        have n2 := PySem.F.sub_list_frozenset
        have n3 : (Value.type "list" == Value.type "dict") = false := by decide
        have hl2 : (s.heap.push (ledSet w)).IsList l items := ⟨_, hol2, rfl, nl, rfl⟩
        unfold Builtin.«set.__init__» noKeywords Builtin.Frozenset.updateFrom
        generalize hPI : pyIter = PI
        wp_walk
        subst hPI
        refine wpAny_pyIter_list hl2 (wpAny_bind (wpAny_runValue ?_))
        have llt : l < s.heap.objs.size := Heap.lt_size hol
        have hh3 : A.in1.in1.in1.handled = none := by simp [hh]
        have zs : (s.heap.push (ledSet w)).objs.size = s.heap.objs.size + 1 := Heap.size_push ..
        have neI : l ≠ (s.heap.push (ledSet w)).objs.size := by rw [zs]; exact Nat.ne_of_lt (Nat.lt_succ_of_lt llt)
        have nS : s.heap.objs.size ∉ [(s.heap.push (ledSet w)).objs.size, l] := by
          intro z
          rcases List.mem_cons.mp z with e | z
          · rw [zs] at e; exact absurd e (Nat.ne_of_lt (Nat.lt_succ_self _))
          · exact absurd (List.mem_singleton.mp z) (Nat.ne_of_gt llt)
        refine set_update_ints ((Walks.list hh3 _ l neI items).toS) _ nS ns hn hb hv items.size 0 _ (by omega) (Nat.zero_le _) ⟨⟨_, Heap.get?_push_size _ rfl, rfl, rfl⟩, (hl2.push _)⟩ ⟨0, Nat.le_refl _, ?s0⟩ ?fin
        case s0 =>
          have g2 : ((s.heap.push (ledSet w)).push { cls := .type "list_iterator", data := .fields #[.ref l, .int 0 0] }).get? s.heap.objs.size = some (ledSet w) := Heap.get?_push_of_some _ gS
          exact setR_new_at g2
        case fin =>
          rintro ⟨h', g', d', tk', os'⟩ c mv hc so
          have eg : g' = s.gens := mv.gens
          have ed : d' = s.drawn := mv.drawn
          have eo : os' = s.os := mv.os
          subst eg ed eo
          show wpAny _ _ _ _ _ _
          refine wpAny_pure ?_
          show wpAny _ _ (ret Value.none) _ _ _
          refine wpAny_pure ⟨rfl, h', tk', c, rfl, so, by omega, fun b o lt e => mv.heap b o (fun z => ?_) (Heap.get?_push_of_some _ (Heap.get?_push_of_some _ e))⟩
          rcases List.mem_cons.mp z with q | z
          · rw [q] at lt; exact absurd lt (Nat.lt_irrefl _)
          · rw [List.mem_singleton.mp z, zs] at lt
            exact absurd lt (Nat.not_lt.mpr (Nat.le_succ _))
      · cases r2 with
        | error e => exact hr2
        | ok fl2 =>
          cases fl2 with
          | ret r =>
            obtain ⟨rfl, h', tk, c, rfl, so, hc, kp⟩ := hr2
            repeat (any_goals (first | assumption | wp_step))
            exact h _ _ _ so hc kp
          | _ => exact hr2.elim
    | _ => exact hr.elim
end
end Hr

end
section
/-! HrY: sorted(set(xs)) as an expression; xs[::-1] -/
namespace Hr
open PySem PySem.Spec L2 PyProof.Rows
/-- rising, each once -/
def insI (x : Int) : List Int → List Int
  | [] => [x]
  | y :: ys => if x < y then x :: y :: ys else if x = y then y :: ys else y :: insI x ys
def srtI : List Int → List Int
  | [] => []
  | x :: xs => insI x (srtI xs)
theorem insI_mem (x z : Int) : ∀ l : List Int, z ∈ insI x l ↔ z = x ∨ z ∈ l
  | [] => by simp [insI]
  | y :: ys => by
    unfold insI
    split
    · simp
    · split
      · rename_i e; subst e; simp
      · simp only [List.mem_cons, insI_mem x z ys]
        constructor
        · rintro (h | h | h)
          · exact .inr (.inl h)
          · exact .inl h
          · exact .inr (.inr h)
        · rintro (h | h | h)
          · exact .inr (.inl h)
          · exact .inl h
          · exact .inr (.inr h)
theorem srtI_mem (z : Int) : ∀ l : List Int, z ∈ srtI l ↔ z ∈ l
  | [] => by simp [srtI]
  | x :: xs => by rw [srtI, insI_mem, srtI_mem z xs, List.mem_cons]
theorem insI_pw (x : Int) : ∀ {l : List Int}, l.Pairwise (· < ·) → (insI x l).Pairwise (· < ·)
  | [], _ => by simp [insI]
  | y :: ys, h => by
    obtain ⟨h1, h2⟩ := List.pairwise_cons.mp h
    unfold insI
    split
    · rename_i hlt
      refine List.pairwise_cons.mpr ⟨fun z hz => ?_, h⟩
      rcases List.mem_cons.mp hz with rfl | hz
      · exact hlt
      · have := h1 z hz; omega
    · split
      · exact h
      · refine List.pairwise_cons.mpr ⟨fun z hz => ?_, insI_pw x h2⟩
        rcases (insI_mem x z ys).mp hz with rfl | hz
        · omega
        · exact h1 z hz
theorem srtI_pw : ∀ l : List Int, (srtI l).Pairwise (· < ·)
  | [] => .nil
  | x :: xs => insI_pw x (srtI_pw xs)
theorem rise_eq : ∀ {l m : List Int}, l.Pairwise (· < ·) → m.Pairwise (· < ·) → (∀ z, z ∈ l ↔ z ∈ m) → l = m
  | [], [], _, _, _ => rfl
  | [], y :: m, _, _, h => by have := (h y).mpr (List.mem_cons_self ..); cases this
  | x :: l, [], _, _, h => by have := (h x).mp (List.mem_cons_self ..); cases this
  | x :: l, y :: m, hl, hm, h => by
    obtain ⟨l1, l2⟩ := List.pairwise_cons.mp hl
    obtain ⟨m1, m2⟩ := List.pairwise_cons.mp hm
    have e : x = y := by
      rcases List.mem_cons.mp ((h x).mp (List.mem_cons_self ..)) with e | a
      · exact e
      · rcases List.mem_cons.mp ((h y).mpr (List.mem_cons_self ..)) with e | b
        · exact e.symm
        · have := m1 x a; have := l1 y b; omega
    subst e
    congr 1
    refine rise_eq l2 m2 fun z => ⟨fun hz => ?_, fun hz => ?_⟩
    · rcases List.mem_cons.mp ((h z).mp (List.mem_cons_of_mem _ hz)) with e | a
      · subst e; have := l1 z hz; omega
      · exact a
    · rcases List.mem_cons.mp ((h z).mpr (List.mem_cons_of_mem _ hz)) with e | a
      · subst e; have := m1 z hz; omega
      · exact a
theorem srtI_len (l : List Int) : (srtI l).length ≤ l.length := by
  have key : ∀ (x : Int) (l : List Int), (insI x l).length ≤ l.length + 1 := by
    intro x l
    induction l with
    | nil => simp [insI]
    | cons y ys ih =>
      unfold insI
      split
      · simp
      · split
        · simp
        · simp only [List.length_cons]; omega
  induction l with
  | nil => simp [srtI]
  | cons x xs ih => rw [srtI, List.length_cons]; have := key x (srtI xs); omega
section
variable {X : Cx} {B : Base} {W : WX} {Γ : Ow} {a : Expr} {fa : En → R D} {pos p p2 q : Pos}
def tSortSet (K : Frag) (ta : TE) : TE := fun σ H Q => ta σ H fun x H1 => (∃ (l : Addr) (ns : List Int), x = V.ref l ∧ SqL K H1 l (ns.map V.int) ∧ ns.length < 64 ∧ ∀ p, H1 p = none → Q (.ref p) (upd H1 p (.lst ((srtI ns).map V.int)))) ∨
  ∃ ks : List Pp, PrL K H1 x ks ∧ ∀ p (N : List Pp), H1 p = none → N.map (·.2) = srtP (ks.map (·.2)) → (∀ q ∈ N, q ∈ ks) → Q (.ref p) (upd H1 p (.lst (N.map fun q => V.ref q.1)))
theorem pe_sortSet {ta : TE} (hu : X.A.units + 64 < cLine) (hc : X.calm = true) (hg : Gl X "sorted") (hm : X.mg "sorted" = none) (hg2 : Gl X "set") (hm2 : X.mg "set" = none) (ha : PE X a ta) (na : starEach [a] X.env = (false, eval a X.env) :: starEach [] X.env) :
    PE X (.Call (.Name "sorted" p) [.Call (.Name "set" p2) [a] [] q] [] pos) (tSortSet X.K ta) := by
  constructor
  intro pins s σ H Q I h
  refine Call_ (ld_blt I hg hm (show bootBuiltins "sorted" = some (.builtin "sorted") by decide +kernel) (PyProof.Rows.callWith_builtin1 (PyProof.Rows.args_cons (Call_ (ld_blt I hg2 hm2 PyProof.Rows.boot_set ?_)) rfl) rfl rfl))
  refine PyProof.Rows.callWith_type1 (PyProof.Rows.args_cons (thn (ha.run pins s σ H _ I h) fun v s1 ⟨x, H1, I1, r1, hx⟩ => PyProof.Rows.args_nil ?_) na) na rfl
  rcases hx with hx | ⟨ks, hp, k⟩
  · obtain ⟨l, ns, rfl, hs, hk, k⟩ := hx
    cases r1
    obtain ⟨its, rv, pl, _⟩ := I1.list hs
    have hit : IntsAre its.toArray.toList ns := by rw [List.toList_toArray]; exact intsAre_of rv
    refine call_setI (I1.ok.hd hc) pl.isList hit (by unfold scanBound; omega) fun h' tk c R hcn kp => PyProof.Rows.args_nil ?_
    have I2 : Inv X pins σ H1 { s1 with heap := h', toks := tk } := I1.kept fun b u e => kp b u (Heap.lt_size e) e
    refine sorted_set (s := { s1 with heap := h', toks := tk }) R (I2.ok.hd hc) (by omega) fun s' p' out cc ms k2 g o hp hg' hi hs' hm' hl => ?_
    have em : ms = srtI ns := rise_eq hs' (srtI_pw ns) fun z => by rw [hm' z, srtI_mem, decide_eq_true_eq]
    subst em
    have hlen : ((srtI ns).map V.int).length ≤ sizeLine := by rw [List.length_map, sizeLine_eq]; have := srtI_len ns; omega
    have hn : H1 p' = none := I2.hok.fresh hp
    generalize hs2 : ({ s1 with heap := h', toks := tk } : Shared) = s2 at *
    have J : Inv X pins σ (upd H1 p' (.lst ((srtI ns).map V.int))) { s2 with heap := s'.heap, gens := s'.gens, drawn := s'.drawn, toks := s'.toks } :=
      I2.call (ch := []) (Un.laid k2 hp hn) (I2.hok.laid k2 hp ⟨hlen, out.toList, cc, vals_of_ints hi, hg'⟩) (by rw [g]; exact I2.bare) (fun _ z => nomatch z)
    have e : s' = { s2 with heap := s'.heap, gens := s'.gens, drawn := s'.drawn, toks := s'.toks } := by
      cases s'
      cases s2
      cases o
      rfl
    rw [e]
    exact ⟨.ref p', _, J, rfl, k p' hn⟩
  · refine set_pp hc hu I1 r1 hp fun h' tk L es ep t N I2 R hN nd hm hsub => PyProof.Rows.args_nil ?_
    refine sorted_setM (s := { s1 with heap := h', toks := tk }) R hN (I2.ok.hd hc) hu fun s' p' out cc N' k2 g o hp' hg' hi pm pw => ?_
    have nd' : (N'.map (·.2)).Nodup := (pm.map (·.2)).nodup_iff.mpr nd
    have em : N'.map (·.2) = srtP (ks.map (·.2)) := srtP_eq (List.pairwise_map.mpr pw) nd' fun z => ((pm.map (·.2)).mem_iff).trans (hm z)
    have few := R.few
    have hl' : N'.length < 64 := by rw [pm.length_eq, ← List.length_map (f := ppK), ← hN]; exact few
    have hlen : (N'.map fun q => V.ref q.1).length ≤ sizeLine := by rw [List.length_map, sizeLine_eq]; omega
    have hn : H1 p' = none := I2.hok.fresh hp'
    have vv : Vals (N'.map fun q => V.ref q.1) out.toList := by
      rw [hi]
      clear hi hlen hl' em nd' pw pm
      induction N' with
      | nil => exact .nil
      | cons q N' ih => exact .cons rfl ih
    generalize hs2 : ({ s1 with heap := h', toks := tk } : Shared) = s2 at *
    have J : Inv X pins σ (upd H1 p' (.lst (N'.map fun q => V.ref q.1))) { s2 with heap := s'.heap, gens := s'.gens, drawn := s'.drawn, toks := s'.toks } :=
      I2.call (ch := []) (Un.laid k2 hp' hn) (I2.hok.laid k2 hp' ⟨hlen, out.toList, cc, vv, hg'⟩) (by rw [g]; exact I2.bare) (fun _ z => nomatch z)
    have e : s' = { s2 with heap := s'.heap, gens := s'.gens, drawn := s'.drawn, toks := s'.toks } := by
      cases s'
      cases s2
      cases o
      rfl
    rw [e]
    exact ⟨.ref p', _, J, rfl, k p' N' hn em fun q hq => hsub q (pm.mem_iff.mp hq)⟩
def dSortSet : D → R D
  | .lst ds => match intsD ds with
    | some ns => R.of (if ns.length < 64 then some (.lst ((srtI ns).map D.int)) else none)
    | none => match prsD ds with
      | some ps => R.of (if (nubP ps).length < 63 then some (.lst ((srtP ps).map prD)) else none)
      | none => .stuck
  | _ => .stuck
theorem dSortSet_noexc (x : D) (c : Str) : dSortSet x ≠ .exc c := by
  unfold dSortSet
  split
  · split
    · exact of_noexc _ _
    · split
      · exact of_noexc _ _
      · exact fun z => nomatch z
  · exact fun z => nomatch z
def eSortSet (fa : En → R D) : En → R D := fun s => fa s >>= dSortSet
theorem rds_ints {K : Frag} {G : Hp} : ∀ ns : List Int, RDs K G (ns.map V.int) (ns.map D.int)
  | [] => .nil
  | n :: ns => .cons (.int n) (rds_ints ns)
theorem eo_sortSet (hu : X.A.units + 64 < cLine) (hc : X.calm = true) (hg : Gl X "sorted") (hm : X.mg "sorted" = none) (hg2 : Gl X "set") (hm2 : X.mg "set" = none) (hs : noStar a = true) (ha : EB X B W Γ a fa) : EO X B W Γ (.own .fz) (.Call (.Name "sorted" p) [.Call (.Name "set" p2) [a] [] q] [] pos) (eSortSet fa) :=
  PE.imp (pe_sortSet hu hc hg hm hg2 hm2 ha (noStar_ok hs _ _)) fun σ H Q ⟨s, G, rl, k⟩ => ⟨s, G, rl, k.bind.imp (fun d _ k x G1 H1 g1 r => by
    obtain ⟨v, e, k1⟩ := k.ok (dSortSet_noexc _)
    clear k
    cases d with
    | lst ds =>
      have e : (match intsD ds with
        | some ns => R.of (if ns.length < 64 then some (D.lst ((srtI ns).map D.int)) else none)
        | none => match prsD ds with
          | some ps => R.of (if (nubP ps).length < 63 then some (D.lst ((srtP ps).map prD)) else none)
          | none => .stuck) = .ok v := e
      cases z : intsD ds with
      | none =>
        rw [z] at e
        simp only at e
        cases zp : prsD ds with
        | none => rw [zp] at e; cases e
        | some ps =>
          rw [zp] at e
          simp only at e
          by_cases hl : (nubP ps).length < 63
          · rw [if_pos hl] at e
            cases e
            obtain ⟨l, vs, rfl, sq, _, rs⟩ := r.lst g1.gh
            have ed := prsD_eq zp
            subst ed
            obtain ⟨ks, rfl, rfl, hc'⟩ := prs_vals rs
            refine .inr ⟨ks, ⟨l, rfl, .inl (.inl sq), hl, fun q hq => g1.gh _ _ (hc' q hq)⟩, fun p N hp em hsub => ?_⟩
            have rd : RDs X.K G1 (N.map fun q => V.ref q.1) (N.map fun q => prD q.2) := rds_prs fun q hq => by
              have := rs.zip (V.ref q.1, prD q.2) (by
                rw [List.map_map, List.zip_map']
                exact List.mem_map.mpr ⟨q, hsub q hq, rfl⟩)
              exact this
            have e2 : (N.map fun q : Pp => prD q.2) = (srtP (ks.map (·.2))).map prD := by rw [← em, List.map_map]; rfl
            rw [e2] at rd
            have hnl : N.length < 63 := by
              have q1 := congrArg List.length em
              rw [List.length_map, (srtP_perm _).length_eq] at q1
              omega
            obtain ⟨g, r⟩ := new_own (K := X.K) g1.gh hp (by rw [List.length_map, sizeLine_eq]; omega) rd
            exact k1 _ _ _ (g1.trans g) (r.grow g1.h)
          · rw [if_neg hl] at e; cases e
      | some ns =>
        rw [z] at e
        have e : R.of (if ns.length < 64 then some (D.lst ((srtI ns).map D.int)) else none) = .ok v := e
        by_cases hl : ns.length < 64
        · rw [if_pos hl] at e
          cases e
          obtain ⟨l, vs, rfl, sq, _, rs⟩ := r.lst g1.gh
          have ev := intsD_vals rs z
          subst ev
          refine .inl ⟨l, ns, rfl, .inl (.inl sq), hl, fun p hp => ?_⟩
          obtain ⟨g, r⟩ := new_own (K := X.K) g1.gh hp (by rw [List.length_map, sizeLine_eq]; have := srtI_len ns; omega) (rds_ints (K := X.K) (G := G1) (srtI ns))
          exact k1 _ _ _ (g1.trans g) (r.grow g1.h)
        · rw [if_neg hl] at e; cases e
    | _ => cases e) fun _ z => z⟩
/-! xs[::-1] -/
def tRevT (K : Frag) (te : TE) : TE := fun σ H Q => te σ H fun x H1 => ∃ a xs, x = .ref a ∧ SqT K H1 a xs ∧ ∀ p us, H1 p = none → Q (.ref p) (upd H1 p (pT us xs.reverse))
theorem rev_places (n : Nat) : Builtin.Slice.sliceAdjust none none (-1) (n : Int) = ((n : Int) - 1, -1) ∧ Builtin.Slice.slicePlaces ((n : Int) - 1) (-1) (-1) = n := by
  refine ⟨rfl, ?_⟩
  unfold Builtin.Slice.slicePlaces
  rw [if_neg (by decide)]
  by_cases h : n = 0
  · subst h; decide
  · rw [if_pos (by omega)]
    have : (n : Int) - 1 - -1 - 1 = (n : Int) - 1 := by omega
    rw [this]
    show (((n : Int) - 1) / 1 + 1).toNat = n
    rw [Int.ediv_one]
    omega
theorem all_at {α : Type} : ∀ ys : List α, (List.range ys.length).filterMap (fun m : Nat => ys[m]?) = ys
  | [] => rfl
  | y :: ys => by
    rw [List.length_cons, List.range_succ_eq_map, List.filterMap_cons, List.filterMap_map]
    show y :: (List.range ys.length).filterMap (fun m : Nat => ys[m]?) = _
    rw [all_at ys]
theorem fm_congr {α β : Type} {f g : α → Option β} : ∀ {l : List α}, (∀ a ∈ l, f a = g a) → l.filterMap f = l.filterMap g
  | [], _ => rfl
  | a :: l, h => by rw [List.filterMap_cons, List.filterMap_cons, h a (List.mem_cons_self ..), fm_congr fun x m => h x (List.mem_cons_of_mem _ m)]
theorem rev_pick (xs : Array Value) : ((List.range xs.size).filterMap fun (m : Nat) => xs[((xs.size : Int) - 1 + (m : Int) * (-1)).toNat]?).toArray = xs.toList.reverse.toArray := by
  congr 1
  have h : (List.range xs.size).filterMap (fun (m : Nat) => xs[((xs.size : Int) - 1 + (m : Int) * (-1)).toNat]?) = (List.range xs.toList.reverse.length).filterMap (fun m : Nat => xs.toList.reverse[m]?) := by
    have hl : xs.toList.reverse.length = xs.size := by simp
    rw [hl]
    refine fm_congr ?_
    intro m hm
    have hm := List.mem_range.mp hm
    rw [List.getElem?_reverse (by simpa using hm), Array.length_toList, Array.getElem?_toList]
    congr 1
    omega
  rw [h, all_at]
theorem getItem_tuple_rev {prog : Program} {w : World} {A : Around} {E : Value → Shared → Prop} {s : Shared} {t sl : Addr} {items : Array Value} {vl vu vs : Value} {Q : Value → Shared → Prop} (ht : IsTup s.heap t items) (hs : s.heap.IsSliceOf sl vl vu vs) (pl : IsPart vl none) (pu : IsPart vu none) (ps : IsPart vs (some (-1)))
    (h : Q (.ref s.heap.objs.size) { s with heap := s.heap.push { cls := .type "tuple", data := .seq items.toList.reverse.toArray } }) (hsz : items.size ≤ sizeLine) : wpAny (model prog w) A (getItem (.ref t) (.ref sl)) Q E s := by
  have hz : sizeOk (.seq items.toList.reverse.toArray) := by
    show items.toList.reverse.toArray.size ≤ sizeLine
    simpa using hsz
  obtain ⟨os, hos, hcs, hds⟩ := id hs
  have hTs : s.TypeIs (.ref sl) "slice" := ⟨os, hos, hcs⟩
  unfold getItem
  try with_reducible refine wpAny_holding ?_
  first | refine wpAny_bind (wpAny_pure ?_) | skip
  refine wpAny_bind (wpAny_sequenceKey ht.typeIs (by decide) ?_)
  refine wpAny_bind (wpAny_callSpecial?_slot (name := Str.ofString "__getitem__") ht.typeIs PyProof.Rows.slot_tuple_getitem
    (wpAny_call_entry PyProof.Rows.slot_tuple_getitem ht.typeIs entry_tuple_getitem ?_ (args_tuple_getitem _ _)))
  show wpAny _ _ (Builtin.Tuple.tupleItemsOf (.ref t) >>= _) _ _ s
  refine wpAny_bind (tupleItemsOf_ ht ?_)
  refine wpAny_bind (wpAny_typeOf hTs ?_)
  rw [if_pos (by decide)]
  obtain ⟨r1, r2⟩ := rev_places items.size
  refine wpAny_bind ?_
  unfold Builtin.Slice.sliceApplied Builtin.Slice.sliceFields
  refine wpAny_bind (wpAny_bind (wpAny_field hos hds (x := vl) rfl (wpAny_bind (wpAny_field hos hds (x := vu) rfl (wpAny_bind (wpAny_field hos hds (x := vs) rfl (wpAny_pure ?_)))))))
  refine wpAny_bind (HT.slicePart_ ps ?_)
  show wpAny _ _ (if ((-1 : Int) == 0) = true then _ else _) _ _ s
  rw [if_neg (by decide)]
  refine wpAny_bind (HT.slicePart_ pl (wpAny_bind (HT.slicePart_ pu (wpAny_bind (wpAny_pure ?_)))))
  show wpAny _ _ (match Builtin.Slice.sliceAdjust none none (-1) (items.size : Int) with | (lo, hi) => pure (lo, (-1 : Int), Builtin.Slice.slicePlaces lo hi (-1))) _ _ s
  rw [r1]
  show wpAny _ _ (pure ((items.size : Int) - 1, (-1 : Int), Builtin.Slice.slicePlaces ((items.size : Int) - 1) (-1) (-1))) _ _ s
  rw [r2]
  refine wpAny_pure ?_
  have hno : ¬ ((((items.size : Int) - 1) == 0 && (-1 : Int) == 1 && items.size == items.size) = true) := by
    intro q
    rw [Bool.and_eq_true, Bool.and_eq_true] at q
    exact absurd q.1.2 (by decide)
  show wpAny _ _ (if (((items.size : Int) - 1) == 0 && (-1 : Int) == 1 && items.size == items.size) = true then _ else _) _ _ s
  rw [if_neg hno, rev_pick]
  first
    | exact wpAny_bind (m := Builtin.Tuple.tupleExact _) (wpAny_newObj_type (wpAny_pure ⟨_, rfl, wpAny_pure h⟩) hz)
    | exact wpAny_bind (m := Builtin.Tuple.tupleExact _) (wpAny_newObj_type (wpAny_bind (wpAny_pure (wpAny_pure ⟨_, rfl, wpAny_pure h⟩))) hz)
    | exact wpAny_bind (wpAny_bind (m := Builtin.Tuple.tupleExact _) (wpAny_newObj_type (wpAny_pure (wpAny_pure ⟨_, rfl, wpAny_pure h⟩)) hz))
    | exact wpAny_bind (wpAny_bind (m := Builtin.Tuple.tupleExact _) (wpAny_newObj_type (wpAny_pure ⟨_, rfl, wpAny_pure h⟩) hz))
theorem pe_revT {e : Expr} {te : TE} {k : Nat} {p1 p2 p3 pos : Pos} (he : PE X e te) : PE X (.Subscript e (.Slice none none (some (.UnaryOp .USub (.Constant (.int 1) k p1) p2)) p3) pos) (tRevT X.K te) := by
  refine ⟨fun pins s σ H Q I h => ?_⟩
  refine Subscript_ (thn (he.run pins s σ H _ I h) fun v s1 ⟨x, H1, I1, r1, q1⟩ => ?_)
  obtain ⟨a, xs, ex, hx, q⟩ := q1
  subst ex
  cases r1
  have hst : PO X (some (.UnaryOp .USub (.Constant (.int 1) k p1) p2)) (tPart (tUn (rU fun i => .int (-i)) (tC (.int 1)))) := po_some (pe_un un_neg pe_int)
  refine wpAny_Slice (thn (po_none.run pins s1 σ H1 (fun o H2 => o = none ∧ H2 = H1) I1 ⟨rfl, rfl⟩) fun vl s2 ⟨l, H2, I2, pl, el, e2⟩ => ?_)
  subst el e2
  refine thn (po_none.run pins s2 σ H2 (fun o H3 => o = none ∧ H3 = H2) I2 ⟨rfl, rfl⟩) fun vu s3 ⟨u, H3, I3, pu, eu, e3⟩ => ?_
  subst eu e3
  refine thn (hst.run pins s3 σ H3 (fun o H4 => o = some (-1) ∧ H4 = H3) I3 ⟨1, rfl, -1, rfl, rfl, rfl⟩) fun vs s4 ⟨o, H4, I4, ps, eo, e4⟩ => ?_
  subst eo e4
  have I5 : Inv X pins σ H4 { s4 with heap := s4.heap.push { cls := .type "slice", data := .fields #[vl, vu, vs] } } := I4.kept (t' := s4.toks) fun b ob q => Heap.get?_push_of_some _ q
  obtain ⟨its, r, ht, hz⟩ := I5.tuple hx
  have hlen := r.length
  show wpAny (model X.prog X.w) X.A (subscriptTail e (.Slice none none (some (.UnaryOp .USub (.Constant (.int 1) k p1) p2)) p3) (.ref a) (.ref s4.heap.objs.size)) (EP X pins σ Q) X.xe { s4 with heap := s4.heap.push { cls := .type "slice", data := .fields #[vl, vu, vs] } }
  refine tail_any (ops := [.ref a, .ref s4.heap.objs.size]) ht.typeIs (PyProof.Rows.slot_tuple_getitem.lookup) ?_ (by with_unfolding_all rfl)
  refine getItem_tuple_rev ht (Heap.IsSliceOf.new _ vl vu vs) pl pu ps ?_ (by rw [List.size_toArray]; omega)
  refine ⟨.ref _, _, I5.laid (t' := s4.toks) (o := pT its.toArray.toList.reverse xs.reverse) (fun b ob q => Heap.get?_push_of_some _ q) (Nat.le_refl _) ?_, rfl, q _ _ (I5.hok.fresh (Nat.le_refl _))⟩
  exact pT_ok ⟨Heap.get?_push_size _ rfl, by rw [List.length_reverse]; exact hz, _, by rw [List.toList_toArray]; exact r.reverse, IsTup.new _ _⟩
/-- a tuple turned about -/
def dRevT : D → R D
  | .tup ds => .ok (.tup ds.reverse)
  | _ => .stuck
def eRevT (fa : En → R D) : En → R D := fun s => fa s >>= dRevT
theorem dRevT_noexc (x : D) (c : Str) : dRevT x ≠ .exc c := by unfold dRevT; split <;> exact fun z => nomatch z
theorem RDs.rev {K : Frag} {G : Hp} : ∀ {vs : List V} {ds : List D}, RDs K G vs ds → RDs K G vs.reverse ds.reverse
  | _, _, .nil => .nil
  | _, _, .cons a b => by rw [List.reverse_cons, List.reverse_cons]; exact (RDs.rev b).append (.cons a .nil)
theorem ev_revT {k : Nat} {p1 p2 p3 : Pos} (ha : EB X B W Γ a fa) : EV X B W Γ (.Subscript a (.Slice none none (some (.UnaryOp .USub (.Constant (.int 1) k p1) p2)) p3) pos) (eRevT fa) :=
  PE.imp (pe_revT ha) fun σ H Q ⟨s, G, rl, k⟩ => ⟨s, G, rl, k.bind.imp (fun d _ k x G1 H1 g1 r => by
    obtain ⟨v, e, k1⟩ := k.ok (dRevT_noexc _)
    clear k
    cases d with
    | tup ds =>
      cases e
      obtain ⟨b, vs, rfl, hb, l, rs⟩ := r.tup.tup_inv
      refine ⟨b, vs, rfl, (hb.same g1.gh).sq, fun p us hp => ?_⟩
      obtain ⟨g, r⟩ := new_tup g1.gh hp (by rw [List.length_reverse]; exact l) (RDs.rev rs)
      exact k1 _ _ _ (g1.trans g) r
    | _ => cases e) fun _ z => z⟩
end
end Hr

end
section
/-! HrZ: dict(pairs), d.get(k, x), xs[::-1] of a list -/
namespace Hr
open PySem PySem.Spec L2
section
variable {X : Cx} {B : Base} {W : WX} {Γ : Ow} {a b c : Expr} {fa fb fc : En → R D} {pos p p2 q : Pos}
/-- a list turned about -/
def dRevL : D → R D
  | .lst ds => .ok (.lst ds.reverse)
  | _ => .stuck
def eRevL (fa : En → R D) : En → R D := fun s => fa s >>= dRevL
theorem dRevL_noexc (x : D) (c : Str) : dRevL x ≠ .exc c := by unfold dRevL; split <;> exact fun z => nomatch z
theorem ev_revL {k : Nat} {p1 p2 p3 : Pos} (ha : EB X B W Γ a fa) : EV X B W Γ (.Subscript a (.Slice none none (some (.UnaryOp .USub (.Constant (.int 1) k p1) p2)) p3) pos) (eRevL fa) :=
  PE.imp (pe_revL ha) fun σ H Q ⟨s, G, rl, k⟩ => ⟨s, G, rl, k.bind.imp (fun d _ k x G1 H1 g1 r => by
    obtain ⟨v, e, k1⟩ := k.ok (dRevL_noexc _)
    clear k
    cases d with
    | lst ds =>
      cases e
      obtain ⟨b, vs, rfl, hb, l, rs⟩ := r.lst g1.gh
      refine ⟨b, vs, rfl, .inl (.inl hb), fun p hp => ?_⟩
      obtain ⟨g, r⟩ := new_lst g1.gh hp (by rw [List.length_reverse]; exact l) (RDs.rev rs)
      exact k1 _ _ _ (g1.trans g) r
    | _ => cases e) fun _ z => z⟩
/-! dict(pairs) -/
def pairsD : List D → Option (List (List Key) × List D)
  | [] => some ([], [])
  | .tup [k, d] :: ds => (keyOf false k).bind fun q => (pairsD ds).map fun r => (q :: r.1, d :: r.2)
  | _ => none
def dicOf (ds : List D) : R D := R.of ((pairsD ds).bind fun r => if r.1.Nodup then some (.dic false r.1 r.2) else none)
def dDict : D → R D
  | .tup ds => dicOf ds
  | .lst ds => dicOf ds
  | _ => .stuck
theorem dDict_noexc (x : D) (c : Str) : dDict x ≠ .exc c := by unfold dDict dicOf; split <;> first | exact of_noexc _ _ | exact fun z => nomatch z
theorem dicOf_ok {ds : List D} {v : D} (h : dicOf ds = .ok v) : ∃ r, pairsD ds = some r ∧ r.1.Nodup ∧ v = .dic false r.1 r.2 := by
  unfold dicOf at h
  cases z : pairsD ds with
  | none => rw [z] at h; cases h
  | some r =>
    rw [z] at h
    have h : R.of (if r.1.Nodup then some (D.dic false r.1 r.2) else none) = .ok v := h
    by_cases n : r.1.Nodup
    · rw [if_pos n] at h; cases h; exact ⟨r, rfl, n, rfl⟩
    · rw [if_neg n] at h; cases h
theorem pairs_rel {K : Frag} {G H : Hp} (e : Same G H) : ∀ {vs : List V} {ds : List D} {r : List (List Key) × List D}, RDs K G vs ds → pairsD ds = some r →
    ∃ (ps : List Addr) (kvs : List (Key × V)), vs = ps.map V.ref ∧ Paired (fun p kv => SqT K H p [kV kv.1, kv.2]) ps kvs ∧ r.1 = (kvs.map fun p => [p.1]) ∧ RDs K G (kvs.map (·.2)) r.2
  | _, _, _, .nil, h => by cases h; exact ⟨[], [], rfl, .nil, rfl, .nil⟩
  | _, _, r, .cons (d := d) (ds := ds) a b, h => by
    unfold pairsD at h
    split at h
    · rename_i z; cases z
    · rename_i k x ds' z
      cases z
      cases hk : keyOf false k with
      | none => rw [hk] at h; cases h
      | some q =>
        rw [hk] at h
        have h : (pairsD ds).map (fun r => (q :: r.1, x :: r.2)) = some r := h
        cases hd : pairsD ds with
        | none => rw [hd] at h; cases h
        | some r' =>
          rw [hd] at h
          cases h
          obtain ⟨ps, kvs, rfl, pr, e1, e2⟩ := pairs_rel e b hd
          obtain ⟨t, ws, rfl, ht, _, rs⟩ := a.tup_inv
          cases rs with
          | cons rk rs =>
            cases rs with
            | cons rx rs =>
              cases rs
              obtain ⟨q', rfl, rfl⟩ := keyOf_K rk hk
              exact ⟨t :: ps, (q', _) :: kvs, rfl, .cons (ht.same e).sq pr, by show [q'] :: r'.1 = _; rw [e1]; rfl, .cons rx e2⟩
    · cases h
theorem merge_nodup : ∀ (more acc : List (Key × V)), ((acc ++ more).map fun p => [p.1]).Nodup → mergeK acc more = acc ++ more
  | [], acc, _ => by rw [List.append_nil]; rfl
  | p :: more, acc, h => by
    have ep : putK acc p.1 p.2 = acc ++ [p] := by
      unfold putK
      rw [if_neg]
      intro z
      obtain ⟨x, hx, hz⟩ := List.any_eq_true.mp z
      rw [List.map_append, List.nodup_append] at h
      exact h.2.2 [x.1] (List.mem_map.mpr ⟨x, hx, rfl⟩) [p.1] (List.mem_map.mpr ⟨p, List.mem_cons_self .., rfl⟩) (by rw [of_decide_eq_true hz])
    show mergeK (putK acc p.1 p.2) more = _
    rw [ep, merge_nodup more (acc ++ [p]) (by rw [List.append_assoc]; exact h), List.append_assoc]
    rfl
def tDict (K : Frag) (ta : TE) : TE := fun σ H Q => ta σ H fun x H1 => ∃ (a : Addr) (ps : List Addr) (kvs : List (Key × V)), x = .ref a ∧ (SqL K H1 a (ps.map V.ref) ∨ PlT H1 a (ps.map V.ref)) ∧ Paired (fun p kv => SqT K H1 p [kV kv.1, kv.2]) ps kvs ∧
    ∀ p, H1 p = none → Q (.ref p) (upd H1 p (.dK (mergeK [] kvs)))
theorem call_dictT (hcalm : X.calm = true) : CallR X (.type "dict") (fun xs H Q => ∃ (a : Addr) (ps : List Addr) (kvs : List (Key × V)), xs = [.ref a] ∧ PlT H a (ps.map V.ref) ∧ Paired (fun p kv => SqT X.K H p [kV kv.1, kv.2]) ps kvs ∧
    ∀ p, H p = none → Q (.ref p) (upd H p (.dK (mergeK [] kvs)))) := by
  intro pins s σ H xs us Q I r q
  obtain ⟨a, ps, kvs, ex, hq, hp, q⟩ := q
  subst ex
  obtain ⟨u, eu, rx⟩ := vals1 r
  subst eu
  cases rx
  obtain ⟨is0, hc⟩ := hq
  have hnk : keyVs (ps.map V.ref) = false := by cases ps <;> rfl
  rw [pT_not hnk] at hc
  obtain ⟨ho, hz, its, rv, o2, ho2, _, n2, hd2⟩ := (show ObjOk X.prog X.w H s.heap a (.frz { cls := .type "tuple", data := .seq is0.toArray } (.tup (ps.map V.ref))) from I.hok a _ hc)
  have ei := refs_at rv
  subst ei
  have eo : o2 = { cls := .type "tuple", data := .seq is0.toArray } := by rw [ho] at ho2; cases ho2; rfl
  subst eo
  have ea : is0.toArray = (ps.map Value.ref).toArray := by cases hd2; rfl
  rw [List.length_map] at hz
  obtain ⟨prs, rel, hl, hpr⟩ := pairs_of I hp
  have hK : ∀ (j : Nat), j < prs.length → ∃ (u : Value), ∀ q', prs[j]? = some q' → ∃ b, ps[j]? = some b ∧ PyProof.Rows.IsTup s.heap b #[u, q'.2] ∧ keyIs q'.1 u = true := fun j hj => by
    obtain ⟨b, u, e1, e2, e3⟩ := hpr j prs[j] (List.getElem?_eq_getElem hj)
    exact ⟨u, fun q' e => by rw [List.getElem?_eq_getElem hj] at e; cases e; exact ⟨b, e1, e2, e3⟩⟩
  have hf : ∃ f : Nat → Value, ∀ j, j < prs.length → ∀ q', prs[j]? = some q' → ∃ b, ps[j]? = some b ∧ PyProof.Rows.IsTup s.heap b #[f j, q'.2] ∧ keyIs q'.1 (f j) = true :=
    ⟨fun j => if h : j < prs.length then (hK j h).choose else .none, fun j hj q' e => by dsimp only; rw [dif_pos hj]; exact (hK j hj).choose_spec q' e⟩
  obtain ⟨f, hf⟩ := hf
  let pv : List (Value × Value) := prs.zipIdx.map fun z => (f z.2, z.1.2)
  have hpv : ∀ j k v, pv[j]? = some (k, v) → ∃ q', prs[j]? = some q' ∧ k = f j ∧ v = q'.2 := fun j k v e => by
    have e : (prs.zipIdx.map fun z => (f z.2, z.1.2))[j]? = some (k, v) := e
    rw [List.getElem?_map, List.getElem?_zipIdx] at e
    cases z : prs[j]? with
    | none => rw [z] at e; cases e
    | some q' => rw [z] at e; simp at e; exact ⟨q', rfl, e.1.symm, e.2.symm⟩
  have hlen : pv.length = prs.length := by show (prs.zipIdx.map _).length = _; rw [List.length_map, List.length_zipIdx]
  let Ts : Nat → Addr := fun j => ps[j]?.getD 0
  refine call_dict_pairs (knd := mixKind X.prog X.w) (kvs := prs) (PairArg.tuple a is0.toArray Ts pv) (I.ok.hd hcalm) ⟨⟨_, _, ho, rfl, rfl, rfl⟩, ?_, ?_⟩ ⟨hlen.symm, ?_⟩ (by rw [hlen, hl]; exact hz) fun h' tk hd' k => ?_
  · rw [ea, List.size_toArray, List.length_map, hlen, hl]
  · intro j k v e
    obtain ⟨q', e1, rfl, rfl⟩ := hpv j k v e
    obtain ⟨b, e2, e3, e4⟩ := hf j (List.getElem?_eq_some_iff.mp e1).1 q' e1
    have eT : Ts j = b := by show ps[j]?.getD 0 = b; rw [e2]; rfl
    refine ⟨?_, .inl ?_⟩
    · rw [ea, eT, List.getElem?_toArray, List.getElem?_map, e2]; rfl
    · rw [eT]; exact e3
  · intro i key v e
    obtain ⟨q', e1, rfl, rfl⟩ := hpv i key v e
    obtain ⟨b, e2, e3, e4⟩ := hf i (List.getElem?_eq_some_iff.mp e1).1 q' e1
    exact ⟨q'.1, e1, e4⟩
  · have hm : (s.heap.objs.size == sysModules) = false := beq_eq_false_iff_ne.mpr (Nat.ne_of_gt I.big)
    have hlen2 : (mergeK [] kvs).length ≤ sizeLine := by
      refine Nat.le_trans (length_mergeK kvs []) ?_
      rw [List.length_nil, Nat.zero_add, rel.length, hl]
      exact hz
    exact ⟨.ref s.heap.objs.size, upd H s.heap.objs.size (.dK (mergeK [] kvs)), I.laid (t' := tk) (fun b o e => k b o (fun z => nomatch z) e) (Nat.le_refl _) (show ObjOk X.prog X.w _ _ _ (.dK (mergeK [] kvs)) from ⟨hlen2, hm, merged [] prs, KV.merge rel .nil, hd'⟩), rfl, q _ (I.hok.fresh (Nat.le_refl _))⟩
theorem pe_dict {ta : TE} (hc : X.calm = true) (hg : Gl X "dict") (hm : X.mg "dict" = none) (ha : PE X a ta) (na : starEach [a] X.env = (false, eval a X.env) :: starEach [] X.env) : PE X (.Call (.Name "dict" p) [a] [] pos) (tDict X.K ta) := by
  constructor
  intro pins s σ H Q I h
  refine PyProof.Rows.Call_ (ld_blt I hg hm (show bootBuiltins "dict" = some (.type "dict") by decide +kernel) ?_)
  refine PyProof.Rows.callWith_type1 (PyProof.Rows.args_cons (thn (ha.run pins s σ H _ I h) fun v s1 ⟨x, H1, I1, r1, hx⟩ => PyProof.Rows.args_nil ?_) na) na rfl
  obtain ⟨l, ps, kvs, rfl, hs | hs, pr, k⟩ := hx
  · exact call_dictP hc pins s1 σ H1 [.ref l] [v] Q I1 (.cons r1 .nil) ⟨l, ps, kvs, rfl, hs, pr, k⟩
  · exact call_dictT hc pins s1 σ H1 [.ref l] [v] Q I1 (.cons r1 .nil) ⟨l, ps, kvs, rfl, hs, pr, k⟩
def eDict (fa : En → R D) : En → R D := fun s => fa s >>= dDict
theorem new_dK {K : Frag} {G H : Hp} {p : Addr} {kvs : List (Key × V)} {ds : List D} (e : Same G H) (hp : H p = none) (l : kvs.length ≤ sizeLine) (r : RDs K G (kvs.map (·.2)) ds) : Grow G H (upd G p (.dK kvs)) (upd H p (.dK kvs)) ∧ RD K (upd G p (.dK kvs)) (.ref p) (.dic false (kvs.map fun p => [p.1]) ds) :=
  have g : Grow G H (upd G p (.dK kvs)) (upd H p (.dK kvs)) := Grow.new e hp
  ⟨g, .dK upd_same l (r.mono g.g)⟩
theorem ev_dict (hc : X.calm = true) (hg : Gl X "dict") (hm : X.mg "dict" = none) (hs : noStar a = true) (ha : EB X B W Γ a fa) : EV X B W Γ (.Call (.Name "dict" p) [a] [] pos) (eDict fa) :=
  PE.imp (pe_dict hc hg hm ha (noStar_ok hs _ _)) fun σ H Q ⟨s, G, rl, k⟩ => ⟨s, G, rl, k.bind.imp (fun d _ k x G1 H1 g1 r => by
    obtain ⟨v, e, k1⟩ := k.ok (dDict_noexc _)
    clear k
    have fin : ∀ (ps : List Addr) (kvs : List (Key × V)) (rr : List (List Key) × List D), ps.length ≤ sizeLine → rr.1.Nodup → v = .dic false rr.1 rr.2 → Paired (fun p kv => SqT X.K H1 p [kV kv.1, kv.2]) ps kvs → rr.1 = (kvs.map fun p => [p.1]) → RDs X.K G1 (kvs.map (·.2)) rr.2 →
        ∀ p, H1 p = none → Q (.ref p) (upd H1 p (.dK (mergeK [] kvs))) := fun ps kvs rr hl nd ev pr e1 e2 p hp => by
      rw [merge_nodup kvs [] (by rw [List.nil_append, ← e1]; exact nd), List.nil_append]
      obtain ⟨g, r⟩ := new_dK g1.gh hp (by rw [← Paired.length pr]; exact hl) e2
      exact k1 _ _ _ (g1.trans g) (by rw [ev, e1]; exact r)
    cases d with
    | lst ds =>
      obtain ⟨rr, e1, e2, e3⟩ := dicOf_ok e
      obtain ⟨l, vs, rfl, sq, hl, rs⟩ := r.lst g1.gh
      obtain ⟨ps, kvs, rfl, pr, e4, e5⟩ := pairs_rel g1.gh rs e1
      exact ⟨l, ps, kvs, rfl, .inl (.inl (.inl sq)), pr, fin ps kvs rr (by rw [List.length_map] at hl; exact hl) e2 e3 pr e4 e5⟩
    | tup ds =>
      obtain ⟨rr, e1, e2, e3⟩ := dicOf_ok e
      obtain ⟨l, vs, rfl, sq, hl, rs⟩ := r.tup.tup_inv
      obtain ⟨ps, kvs, rfl, pr, e4, e5⟩ := pairs_rel g1.gh rs e1
      exact ⟨l, ps, kvs, rfl, .inr (sq.same g1.gh), pr, fin ps kvs rr (by rw [List.length_map] at hl; exact hl) e2 e3 pr e4 e5⟩
    | _ => cases e) fun _ z => z⟩
/-! d.get(k, x) -/
def isDic : D → R (List (List Key) × List D)
  | .dic false ks ds => .ok (ks, ds)
  | _ => .stuck
theorem isDic_noexc (x : D) (c : Str) : isDic x ≠ .exc c := by unfold isDic; split <;> exact fun z => nomatch z
def eGet2 (fa fb fc : En → R D) : En → R D := fun s => fa s >>= fun x => isDic x >>= fun q => fb s >>= fun k => fc s >>= fun z => R.of ((keyOf false k).map fun kk => (lookK q.1 q.2 kk).getD z)
theorem ev_get2 {apos cpos : Pos} (hu : X.A.units + 1 < cLine) (hn : notSuper a = true) (hl : (apos.endLine == cpos.line) = true) (hs : noStar b = true) (hs2 : noStar c = true) (ha : EV X B W Γ a fa) (hb : EV X B W Γ b fb) (hc : EV X B W Γ c fc) :
    EV X B W Γ (.Call (.Attribute a "get" apos) [b, c] [] cpos) (eGet2 fa fb fc) :=
  PE.imp (pe_dget2 hu ha hb hc ⟨base_ok2 hn _ _ _, few_ok (by simp [hs, hs2]) (by simp), hl, by rw [noStar_ok hs, noStar_ok hs2]; rfl⟩) fun σ H Q ⟨s, G, rl, k⟩ => ⟨s, G, rl, k.bind.imp (fun dx _ k x G1 H1 g1 rx => by
    obtain ⟨⟨qk, qd⟩, e, k1⟩ := k.bind.ok (isDic_noexc _)
    clear k
    have e0 : dx = .dic false qk qd := by
      unfold isDic at e
      split at e
      · cases e; rfl
      · cases e
    subst e0
    cases rx with
    | @dK a kvs ds hG hlen rs =>
      refine ⟨a, rfl, .inl ⟨kvs, .inl (g1.gh _ _ hG)⟩, s, G1, rl.grow g1, k1.bind.imp (fun dk _ k2 y G2 H2 g2 ry => ⟨s, G2, (rl.grow g1).grow g2, k2.bind.imp (fun dz _ k3 z G3 H3 g3 rz => ?_) fun _ z => XW.grow g2 (XW.grow g1 z)⟩) fun _ z => XW.grow g1 z⟩
      obtain ⟨r, er, k4⟩ := k3.opt
      cases hk : keyOf false dk with
      | none => rw [hk] at er; cases er
      | some kk =>
        rw [hk] at er
        cases er
        obtain ⟨kq, rfl, rfl⟩ := keyOf_K ry hk
        have g23 := g2.trans g3
        have look := lookK_dK (q := kq) (rs.mono g23.g)
        refine ⟨valV kvs kq, .k (g3.gh _ _ (g3.g _ _ (g2.g _ _ hG))), k4 _ G3 H3 ((g1.trans g2).trans g3) ?_⟩
        show RD X.K G3 ((valV kvs kq).getD z) ((lookK (kvs.map fun p => [p.1]) qd [kq]).getD dz)
        cases hq : lookK (kvs.map fun p => [p.1]) qd [kq] with
        | none => rw [hq] at look; rw [look]; exact rz
        | some d =>
          rw [hq] at look
          obtain ⟨v, ev, rv⟩ := look
          rw [ev]; exact rv) fun _ z => z⟩
end
end Hr

end
section
/-! HrZb: d.pop(k) with tuples as keys, list(d), xs.pop() -/
namespace Hr
open PySem PySem.Spec L2 PyProof.Rows
section
variable {prog : Program} {w : World} {κ : Type} [DecidableEq κ] {knd : HeapKind prog w κ} {d b : Addr} {k : κ}
/-- d.pop(k), k an object, there -/
theorem meets_pop1 (hd : (d == sysModules) = false) : MeetsIn prog w (Builtin.«dict.pop» ⟨[.ref d, .ref b], []⟩) (fun A R s => ∃ xs p, knd.room A.in1 ∧ knd.is s.heap k b ∧ s.heap.DictOfH knd d xs ∧ xs.length ≤ sizeLine ∧ atKey xs k = some p ∧
      ∀ h' tk, h'.DictOfH knd d (DT.dropH xs k) → Heap.SameBut d s.heap h' → R (.ok (.ret p.2)) { s with heap := h', toks := tk }) :=
  .of_wp fun A R s ⟨xs, p, hu, hk, hm, hz, hp, hs⟩ => by
    have ⟨o, es, ep, ho, _, hdat, he, _, _⟩ := id hm
    have hne : es.isEmpty = false := by
      cases q : es.isEmpty with
      | false => rfl
      | true =>
        have z : es.size = 0 := by simpa using q
        have := size_of_entries he
        have : xs = [] := List.length_eq_zero_iff.mp (by omega)
        rw [this] at hp
        cases hp
    have hpt : (keyPart (Value.ref b)).isSome = false := rfl
    unfold Builtin.«dict.pop» Builtin.Dict.keyAndDefault
    refine wpAny_bind (wpAny_bind (wpAny_notOrdered_dict hm.typeIs (?_ : wpAny _ _ (pure (d, Value.ref b, none)) _ _ s)))
    refine wpAny_pure ?_
    simp only [hpt, Bool.false_eq_true, if_false]
    refine wpAny_bind (wpAny_dictEntries ho hdat (wpAny_bind (wpAny_pure ?_)))
    simp only [hne, Bool.false_eq_true, if_false]
    refine wpAny_bind (DT.takeH hu hk hm hz (fun no => by rw [hp] at no; cases no) fun p' e hp' hev h' hm' hs' => ?_)
    rw [hp] at hp'
    cases hp'
    simp only [Option.isNone_some, Bool.false_eq_true, if_false]
    exact wpAny_bind (wpAny_letGo (wpAny_pure ⟨e.val, rfl, hev ▸ hs h' _ hm' hs'⟩))
end
section
variable {X : Cx} {B : Base} {W : WX} {Γ : Ow} {o : OC} {a b c e : Expr} {fa fb fc fe : En → R D} {pos p p2 q : Pos}
def rPopT1 : V → List V → Hp → VK → Prop := fun x xs H Q => ∃ (a : Addr) (kvs : List (List L2.Key × V)) (k : List L2.Key) (b : Addr) (v : V), x = .ref a ∧ xs = [.ref b] ∧ H a = some (.dT kvs) ∧ H b = some (.tup (k.map kV)) ∧ valV kvs k = some v ∧ Q v (upd H a (.dT (dropK kvs k)))
theorem mt_popT1 (hu : X.A.units + 1 < cLine) : MtR X "dict.pop" rPopT1 := by
  intro pins s σ H x xs v us Q I rx rxs ⟨a, kvs, k, b, v0, e1, e2, ha, hb, ev, q⟩
  subst e1 e2
  cases rx
  obtain ⟨u1, rfl, r1⟩ := vals1 rxs
  cases r1
  obtain ⟨z, hd, xs', rel, dd⟩ := dt_of I.hok ha
  have r := rel.val k
  rw [ev] at r
  obtain ⟨pp, ep, rv⟩ : ∃ pp, atKey xs' k = some pp ∧ RelV v0 pp.2 := by
    cases z : atKey xs' k with
    | none => rw [z] at r; exact (show False from r).elim
    | some pp => rw [z] at r; exact ⟨pp, rfl, r⟩
  have hz : xs'.length ≤ sizeLine := Paired.length rel ▸ z
  refine call_meetsIn PySem.F.slot_dict_pop dd.typeIs PySem.F.entry_dict_pop (PySem.F.args_dict_pop_2 _ _) (meets_pop1 (knd := tupleKind (mixKind X.prog X.w)) (k := k) hd) ⟨xs', pp, tupleKind_room_in1 hu, key_of I.hok hb, dd, hz, ep, fun h' tk dd' hs => ?_⟩
  obtain ⟨o, es, ep', hq, h2, h3, h4, _, h5⟩ := dd'
  have keep : ∀ c ys, H c = some (.tup ys) → upd H a (.dT (dropK kvs k)) c = some (.tup ys) := fun c ys ec => by
    rw [upd_ne (ne_of ec ha fun z => nomatch z)]; exact ec
  refine ⟨v0, upd H a (.dT (dropK kvs k)), d_write I (by rw [ha]; exact True.intro) hs ⟨o, hq⟩ ?_, rv, q⟩
  exact ⟨Nat.le_trans (dropK_le kvs k) z, hd, _, (DX.KT_drop k rel).keeps keep, o, es, ep', hq, h2, h3, h4, h5⟩
/-- a dict without a key -/
def dropD (k : List Key) : List (List Key) → List D → List (List Key) × List D
  | q :: ks, d :: ds => if q = k then dropD k ks ds else (q :: (dropD k ks ds).1, d :: (dropD k ks ds).2)
  | _, _ => ([], [])
theorem dropD_T {K : Frag} {G : Hp} {k : List Key} : ∀ {kvs : List (List Key × V)} {ds : List D}, RDs K G (kvs.map (·.2)) ds → (dropD k (kvs.map fun p => p.1) ds).1 = ((dropK kvs k).map fun p => p.1) ∧ RDs K G ((dropK kvs k).map (·.2)) (dropD k (kvs.map fun p => p.1) ds).2
  | [], _, .nil => ⟨rfl, .nil⟩
  | p :: kvs, _, .cons (d := d) (ds := ds) r rs => by
    obtain ⟨h1, h2⟩ := dropD_T (k := k) rs
    by_cases e : p.1 = k
    · have e1 : dropK (p :: kvs) k = dropK kvs k := List.filter_cons_of_neg (by simp [e])
      have e2 : dropD k ((p :: kvs).map fun p => p.1) (d :: ds) = dropD k (kvs.map fun p => p.1) ds := by show (if p.1 = k then _ else _) = _; rw [if_pos e]
      rw [e1, e2]; exact ⟨h1, h2⟩
    · have e1 : dropK (p :: kvs) k = p :: dropK kvs k := List.filter_cons_of_pos (by simp [e])
      have e2 : dropD k ((p :: kvs).map fun p => p.1) (d :: ds) = (p.1 :: (dropD k (kvs.map fun p => p.1) ds).1, d :: (dropD k (kvs.map fun p => p.1) ds).2) := by show (if p.1 = k then _ else _) = _; rw [if_neg e]
      rw [e1, e2]
      exact ⟨by rw [h1]; rfl, .cons r h2⟩
theorem lookK_T {K : Frag} {G : Hp} {k : List Key} {x : D} : ∀ {kvs : List (List Key × V)} {ds : List D}, RDs K G (kvs.map (·.2)) ds → lookK (kvs.map fun p => p.1) ds k = some x → ∃ v, valV kvs k = some v ∧ RD K G v x
  | [], _, .nil, h => by cases h
  | p :: kvs, _, .cons (d := d) (ds := ds) r rs, h => by
    have h : (if p.1 = k then some d else lookK (kvs.map fun p => p.1) ds k) = some x := h
    by_cases e : p.1 = k
    · rw [if_pos e] at h
      cases h
      refine ⟨p.2, ?_, r⟩
      unfold valV
      simp [e]
    · rw [if_neg e] at h
      obtain ⟨v, h1, h2⟩ := lookK_T rs h
      refine ⟨v, ?_, h2⟩
      unfold valV at h1 ⊢
      simpa [e] using h1
def sPopT (i : Nat) (fk : En → R D) : En → Out := fun s => optO (dicAt s i) fun q => (fk s).go s fun dk => optO (if q.1 = true then keyOf true dk else none) fun k => optO (lookK q.2.1 q.2.2 k) fun _ => .nx (s.set i (some (.dic true (dropD k q.2.1 q.2.2).1 (dropD k q.2.1 q.2.2).2)))
theorem sv_popT {i : Nat} {x : Str} {p apos cpos : Pos} (hu : X.A.units + 1 < cLine) (lx : leO Γ o.x) (ho : oty Γ i = .own .fz) (hN : X.N[i]? = some x) (hv : Vis X.env.scope x) (h1 : (x == ("__debug__" : Str)) = false) (h2 : (x == ("__classdict__" : Str)) = false) (hl : (apos.endLine == cpos.line) = true) (hs : noStar e = true)
    (he : EV X B W Γ e fe) : SV X B W Γ Γ o (.Expr (.Call (.Attribute (.Name x p) "pop" apos) [e] [] cpos) pos) (sPopT i fe) := by
  have pa : PA X [e] (tCons (tV X.K B W Γ fe) tNil) := pa_cons he pa_nil (noStar_ok hs _ _)
  refine PS.imp (ps_expr (pe_bm PySem.F.plainAttrs_dict PySem.F.slot_dict_pop PySem.F.type_dict_pop (mt_popT1 hu) (pe_var hN hv h1 h2) pa (base_ok rfl _ _ _) (few_ok (by simp [hs]) (by simp)) hl (noStar_ok hs _ _) rfl) rfl) fun Dn σ H ⟨s, G, rl, k⟩ => ?_
  unfold sPopT at k
  cases q : dicAt s i with
  | none => rw [q] at k; exact k.elim
  | some tkd =>
    obtain ⟨t, ks, ds⟩ := tkd
    rw [q] at k
    have k : Fin X.K B W Γ o G Dn ((fe s).go s fun dk => optO (if t = true then keyOf true dk else none) fun kk => optO (lookK ks ds kk) fun _ => .nx (s.set i (some (.dic true (dropD kk ks ds).1 (dropD kk ks ds).2)))) := k
    cases t with
    | false =>
      obtain ⟨a, kvs, ev, hH, l, _, rs, up⟩ := rl.odict (dicAt_ok q) ho
      refine ⟨_, ev, .inr (.inr (.inl ⟨rfl, .inl ⟨kvs, hH⟩⟩)), s, G, rl, (Fin.go rl lx k).imp (fun d _ k v G1 H1 g1 r => k.elim) fun _ z => z⟩
    | true =>
      obtain ⟨a, kvs, ev, hH, l, rfl, rs, up⟩ := rl.odictT (dicAt_ok q) ho
      refine ⟨_, ev, .inr (.inr (.inl ⟨rfl, .inr ⟨kvs, hH⟩⟩)), s, G, rl, (Fin.go rl lx k).imp (fun d _ k v G1 H1 g1 r => ?_) fun _ z => z⟩
      cases hk : keyOf true d with
      | none => rw [if_pos rfl, hk] at k; exact k.elim
      | some kk =>
        rw [if_pos rfl, hk] at k
        have k : Fin X.K B W Γ o G Dn (optO (lookK (kvs.map fun p => p.1) ds kk) fun _ => .nx (s.set i (some (.dic true (dropD kk (kvs.map fun p => p.1) ds).1 (dropD kk (kvs.map fun p => p.1) ds).2)))) := k
        cases hx : lookK (kvs.map fun p => p.1) ds kk with
        | none => rw [hx] at k; exact k.elim
        | some x0 =>
          rw [hx] at k
          obtain ⟨a', kvs', ev', hH', l', e', rs', up'⟩ := (rl.grow g1).odictT (dicAt_ok q) ho
          have ea : a' = a := by rw [ev] at ev'; cases ev'; rfl
          subst ea
          have ek : kvs' = kvs := by
            have := g1.h _ _ hH
            rw [hH'] at this
            cases this; rfl
          subst ek
          obtain ⟨b, rfl, hb⟩ := keyOf_T r hk
          obtain ⟨v0, hv0, _⟩ := lookK_T rs' hx
          obtain ⟨d1, d2⟩ := dropD_T (k := kk) rs'
          refine ⟨a', kvs', kk, b, v0, rfl, rfl, hH', g1.gh _ _ hb, hv0, ?_⟩
          have := up' (dropK kvs' kk) _ (Nat.le_trans (dropK_le kvs' kk) l') d2
          rw [← d1] at this
          exact k σ G1 _ g1.g this
/-! list(d) -/
def kD1 : Key → D
  | .inl i => .int i
  | .inr x => .str x
def kDt (k : List Key) : D := .tup (k.map kD1)
def kOk1 : Key → Bool
  | .inl _ => true
  | .inr x => PyData.strOk x && decide (x.length ≤ sizeLine)
/-- keys that may be handed out -/
def kOkT (k : List Key) : Bool := !k.isEmpty && (k.all kOk1 && decide (k.length ≤ sizeLine))
def dListD : D → R D
  | .dic true ks _ => if ks.all kOkT = true then .ok (.lst (ks.map kDt)) else .stuck
  | _ => .stuck
theorem dListD_noexc (x : D) (c : Str) : dListD x ≠ .exc c := by unfold dListD; split <;> (try split) <;> exact fun z => nomatch z
theorem kD1_rd {K : Frag} {G : Hp} {k : Key} (h : kOk1 k = true) : RD K G (kV k) (kD1 k) := by
  cases k with
  | inl i => exact .int i
  | inr x =>
    obtain ⟨h1, h2⟩ := and2 (show (PyData.strOk x && decide (x.length ≤ sizeLine)) = true from h)
    exact .str x h1 (of_decide_eq_true h2)
theorem kDs_rd {K : Frag} {G : Hp} : ∀ {k : List Key}, k.all kOk1 = true → RDs K G (k.map kV) (k.map kD1)
  | [], _ => .nil
  | a :: k, h => by
    rw [List.all_cons] at h
    obtain ⟨h1, h2⟩ := and2 h
    exact .cons (kD1_rd h1) (kDs_rd h2)
theorem kVs_key : ∀ k : List Key, (k.map kV).all isKV = true
  | [] => rfl
  | a :: k => by rw [List.map_cons, List.all_cons, kVs_key k]; cases a <;> rfl
theorem kDt_rd {K : Frag} {G : Hp} {k : List Key} {b : Addr} (h : kOkT k = true) (hb : G b = some (.tup (k.map kV))) : RD K G (.ref b) (kDt k) := by
  obtain ⟨h1, h2⟩ := and2 h
  obtain ⟨h2, h3⟩ := and2 h2
  have hk : keyVs (k.map kV) = true := by
    unfold keyVs
    rw [kVs_key, Bool.and_true]
    cases k with
    | nil => cases h1
    | cons _ _ => rfl
  exact .tup ⟨[], by rw [pT_key hk]; exact hb⟩ (by rw [List.length_map]; exact of_decide_eq_true h3) (kDs_rd h2)
/-- tuples that stand are among the data -/
theorem join_tup {G H : Hp} (e : Same G H) {bs : List Addr} (hb : ∀ b ∈ bs, ∃ vs, H b = some (.tup vs)) : Same G (join G H bs) ∧ Same (join G H bs) H ∧ ∀ a, G a = none → Cel H a → join G H bs a = none := by
  refine ⟨fun b o q => ?_, join_le e, fun a h1 h2 => ?_⟩
  · unfold join
    split
    · exact e b o q
    · exact q
  · unfold join
    split
    · rename_i m
      obtain ⟨vs, q⟩ := hb a m
      obtain ⟨o, q2, n⟩ := h2
      rw [q] at q2
      cases q2
      exact absurd rfl (n vs)
    · exact h1
theorem keys_rds {K : Frag} {G : Hp} : ∀ {kvs : List (List Key × V)} {bs : List Addr}, IsKeys G kvs bs → (kvs.map fun p => p.1).all kOkT = true → RDs K G (bs.map V.ref) ((kvs.map fun p => p.1).map kDt)
  | _, _, .nil, _ => .nil
  | _, _, .cons h t, k => by
    rw [List.map_cons, List.all_cons] at k
    obtain ⟨k1, k2⟩ := and2 k
    exact .cons (kDt_rd k1 h) (keys_rds t k2)
theorem isKeys_len {H : Hp} : ∀ {kvs : List (List Key × V)} {bs : List Addr}, IsKeys H kvs bs → bs.length = kvs.length
  | _, _, .nil => rfl
  | _, _, .cons _ t => congrArg Nat.succ (isKeys_len t)
theorem isKeys_mem {H : Hp} : ∀ {kvs : List (List Key × V)} {bs : List Addr}, IsKeys H kvs bs → ∀ b ∈ bs, ∃ vs, H b = some (.tup vs)
  | _, _, .nil, b, m => by cases m
  | _, _, .cons h t, b, m => by
    rcases List.mem_cons.mp m with e | m
    · rw [e]; exact ⟨_, h⟩
    · exact isKeys_mem t b m
theorem isKeys_join {G H : Hp} {bs : List Addr} : ∀ {kvs : List (List Key × V)} {cs : List Addr}, IsKeys H kvs cs → (∀ c ∈ cs, c ∈ bs) → IsKeys (join G H bs) kvs cs
  | _, _, .nil, _ => .nil
  | _, _, .cons h t, k => .cons (by rw [join_in (k _ (List.mem_cons_self ..))]; exact h) (isKeys_join t fun c m => k c (List.mem_cons_of_mem _ m))
theorem cd_listd {K : Frag} : CallD K (fun xs H Q => ∃ d kvs, xs = [V.ref d] ∧ Rd H d (.dT kvs) ∧ ∀ p bs, H p = none → IsKeys H kvs bs → Q (.ref p) (upd H p (.lst (bs.map V.ref)))) (on1 dListD) (.own .fz) := calld1 fun x dx d G H Q e r hg k => by
  unfold dListD at hg
  split at hg
  · rename_i ks ds
    split at hg
    · rename_i hk
      cases hg
      rcases r.dic e with ⟨z, _⟩ | ⟨_, a, kvs, rfl, hH, l, rfl, rs⟩
      · cases z
      · refine ⟨a, kvs, rfl, .inl hH, fun p bs hp hb => ?_⟩
        have mem := isKeys_mem hb
        obtain ⟨j1, j2, j3⟩ := join_tup e mem
        have rd := keys_rds (K := K) (isKeys_join (G := G) hb fun _ m => m) hk
        have hpb : p ∉ bs := fun m => by
          obtain ⟨vs, q⟩ := mem p m
          rw [hp] at q; cases q
        have hpj : join G H bs p = none := by rw [join_out hpb]; exact e.free hp
        refine k (.ref p) (join G H bs) _ ⟨j1, Same.upd hp, j2.trans (Same.upd hp), j3⟩ ⟨[p], .ol upd_same (by rw [List.length_map, isKeys_len hb]; exact l) (OWs.fzs rd), by simp, fun c m => ?_⟩
        have : c = p := by simpa using m
        subst this
        exact ⟨hp, ⟨_, upd_same, fun _ z => nomatch z⟩, hpj⟩
    · cases hg
  · cases hg
/-! x = xs.pop() -/
def sPopL (j i : Nat) : En → Out := fun s => optO (lstAt s i) fun ds => optO ds.getLast? fun d => if j < s.length ∧ j ≠ i then .nx ((s.set i (some (.lst ds.dropLast))).set j (some d)) else .stuck
theorem RDs.last {K : Frag} {G : Hp} {vs : List V} {ds : List D} {d : D} (r : RDs K G vs ds) (h : ds.getLast? = some d) : ∃ v, vs[vs.length - 1]? = some v ∧ RD K G v d := by
  rw [List.getLast?_eq_getElem?, ← r.length] at h
  exact r.get h
theorem RDs.dropLast {K : Frag} {G : Hp} {vs : List V} {ds : List D} (r : RDs K G vs ds) : RDs K G vs.dropLast ds.dropLast := by
  rw [List.dropLast_eq_take, List.dropLast_eq_take, r.length]
  exact r.take _
theorem sv_popL {j i : Nat} {x y : Str} {p p1 apos cpos : Pos} (lx : leO Γ o.x) (ho : oty Γ i = .own .fz) (hj : oty Γ j = .fz) (hnd : X.N.Nodup) (hN : X.N[i]? = some x) (hv : Vis X.env.scope x) (h1 : (x == ("__debug__" : Str)) = false) (h2 : (x == ("__classdict__" : Str)) = false) (hl : (apos.endLine == cpos.line) = true)
    (hy : X.N[j]? = some y) (hly : Loc X.env.scope y) (hf : X.fn y = true ∨ X.env.scope.names.lookup y = some .local) : SV X B W Γ Γ o (.Assign [.Name y p1] (.Call (.Attribute (.Name x p) "pop" apos) [] [] cpos) pos) (sPopL j i) := by
  refine PS.imp (ps_set hnd hy hly (pe_bm0 PySem.F.plainAttrs_list PySem.F.slot_list_pop PySem.F.type_list_pop mt_pop (pe_var hN hv h1 h2) (base_ok rfl _ _ _) hl) rfl hf) fun Dn σ H ⟨s, G, rl, k⟩ => ?_
  unfold sPopL at k
  cases q : lstAt s i with
  | none => rw [q] at k; exact k.elim
  | some ds =>
    rw [q] at k
    have k : Fin X.K B W Γ o G Dn (optO ds.getLast? fun d => if j < s.length ∧ j ≠ i then .nx ((s.set i (some (.lst ds.dropLast))).set j (some d)) else .stuck) := k
    cases q2 : ds.getLast? with
    | none => rw [q2] at k; exact k.elim
    | some d =>
      rw [q2] at k
      have k : Fin X.K B W Γ o G Dn (if j < s.length ∧ j ≠ i then .nx ((s.set i (some (.lst ds.dropLast))).set j (some d)) else .stuck) := k
      by_cases hc : j < s.length ∧ j ≠ i
      · rw [if_pos hc] at k
        obtain ⟨a, vs, ev, hH, l, rs, up⟩ := rl.olist (lstAt_ok q) ho
        obtain ⟨v, hv1, rv⟩ := rs.last q2
        refine ⟨_, ev, .inl ⟨rfl, vs, .inl (.inl hH)⟩, a, vs, v, rfl, rfl, hH, hv1, ?_⟩
        have r1 := up vs.dropLast ds.dropLast (by rw [List.length_dropLast]; omega) rs.dropLast
        have tm := Tmp.of_fz r1 rv
        exact k _ G _ (.refl _) (tm.set j hj (fun _ _ => rfl) (by rw [← r1.len, List.length_set]; exact hc.1))
      · rw [if_neg hc] at k; exact k.elim
end
end Hr

end
section
/-! HrZc: sorted(d), d with tuples of a text and an int as keys -/
namespace Hr
open PySem PySem.Spec L2 PyProof.Rows
section
variable {X : Cx}
theorem pps_of {H : Hp} : ∀ {kvs : List (List Key × V)} {bs : List Addr} {ps : List (Str × Int)}, IsKeys H kvs bs → (kvs.map fun p => p.1) = ps.map prK → ∃ N : List Pp, bs = N.map (·.1) ∧ N.map (·.2) = ps ∧ ∀ q ∈ N, H q.1 = some (.tup [.str q.2.1, .int q.2.2])
  | _, _, ps, .nil, h => by
    cases ps with
    | nil => exact ⟨[], rfl, rfl, fun q hq => by cases hq⟩
    | cons _ _ => cases h
  | _, _, ps, .cons (a := a) (b := b) h0 t, h => by
    cases ps with
    | nil => cases h
    | cons p ps =>
      injection h with h1 h2
      obtain ⟨N, e1, e2, e3⟩ := pps_of t h2
      refine ⟨(b, p) :: N, by rw [e1]; rfl, by rw [← e2]; rfl, fun q hq => ?_⟩
      rcases List.mem_cons.mp hq with z | z
      · rw [z]
        have h0 : H b = some (.tup (a.1.map kV)) := h0
        have h1 : a.1 = prK p := h1
        rw [h1] at h0
        exact h0
      · exact e3 q z
set_option maxHeartbeats 1000000 in
theorem call_sortedT (hc : X.calm = true) (hu : X.A.units + 64 < cLine) : CallR X (.builtin "sorted") (fun xs H Q => ∃ (a : Addr) (kvs : List (List Key × V)) (ps : List (Str × Int)), xs = [V.ref a] ∧ Rd H a (.dT kvs) ∧ (kvs.map fun p => p.1) = ps.map prK ∧ ps.length < 64 ∧
    ∀ (N N' : List Pp) p, N.map (·.2) = ps → N'.Perm N → N'.Pairwise (fun q r => lePr q.2 r.2 = true) → (∀ q ∈ N, H q.1 = some (.tup [.str q.2.1, .int q.2.2])) → H p = none → Q (.ref p) (upd H p (.lst (N'.map fun q => V.ref q.1)))) := by
  intro pins s σ H xs us Q I r q
  obtain ⟨d, kvs, ps, rfl, hd, hps, h64, q⟩ := q
  obtain ⟨u, rfl, rx⟩ := r.one
  cases rx
  obtain ⟨z, hs, ks, pr, o, es, ep, ho, hx, hdt, he, hn⟩ := (show ObjOk X.prog X.w H s.heap d (.dT kvs) from hd.ok I.hok)
  have l1 : es.size = ks.length := size_of_entries he
  have l2 : kvs.length = ks.length := Paired.length pr
  obtain ⟨N, eN, eP, hN⟩ := pps_of (isKeys_of pr) hps
  have lN : N.length = ps.length := by rw [← eP, List.length_map]
  refine Calls.call_function_entry kind_sorted plain_sorted entry_sorted (args_sorted1 _) ?_
  unfold Builtin.«sorted»
  refine wpAny_bind (m := checkCount "sorted" 1 1 _) (wpAny_pure ?_)
  refine wpAny_bind (PySem.W.kdu_collect (A := X.A.in1) (kdl_raw hs hx hdt) (I.ok.hd hc) ho (by omega) fun h' tk acc kp it => ?_)
  have ea : acc.toList = ks.map fun x => Value.ref x.2.1 := by
    have hl : acc.toList.length = ks.length := by rw [Array.length_toList, it.1]; exact l1
    apply List.ext_getElem?
    intro j
    rw [List.getElem?_map]
    cases hj : acc.toList[j]? with
    | none =>
      have h1 := List.getElem?_eq_none_iff.mp hj
      rw [List.getElem?_eq_none (by omega)]
      all_goals rfl
    | some v =>
      obtain ⟨en, hen, hv⟩ := it.2 j v (by rw [← Array.getElem?_toList]; exact hj)
      have qe := entry_at he j
      rw [hen] at qe
      cases hb : ks[j]? with
      | none =>
        rw [hb] at qe
        exact nomatch (show some en = none from qe)
      | some b =>
        rw [hb] at qe
        have e2 : en = entryOfKey (tupleKind (mixKind X.prog X.w)) b := Option.some.inj qe
        rw [hv, e2]
        all_goals rfl
  have eb : acc.toList = N.map fun q => Value.ref q.1 := by
    have : acc.toList = (ks.map fun x => x.2.1).map Value.ref := by rw [ea, List.map_map]; all_goals rfl
    rw [this, eN, List.map_map]; rfl
  rw [eb]
  have I1 : L2.Inv X pins σ H { s with heap := h', toks := tk } := I.kept kp
  have hvl : (N.map fun q => Value.ref q.1).length ≤ sizeLine := by rw [List.length_map, sizeLine_eq]; omega
  refine wpAny_bind (wpAny_newList ?_ hvl)
  show wpAny _ _ _ _ _ { s with heap := h'.push (seqObj "list" (N.map fun q => Value.ref q.1).toArray 0), toks := tk }
  have hoL : (h'.push (seqObj "list" (N.map fun q => Value.ref q.1).toArray 0)).get? h'.objs.size = some (seqObj "list" (N.map fun q => Value.ref q.1).toArray 0) := Heap.get?_push_size _ rfl
  have rd : ∀ q ∈ N, Reads (h'.push (seqObj "list" (N.map fun q => Value.ref q.1).toArray 0)) (.ref q.1) (prD q.2).py [] := fun q hq => by
    have : IsM X.prog X.w h' (prK q.2) q.1 := key_of (ks := prK q.2) I1.hok (hN q hq)
    exact readsP (P := X.prog) (w := X.w) (isM_keep this fun b u e => Heap.get?_push_of_some _ e)
  refine wpAny_bind (wpAny_holding (PySem.W.list_sort_data (s := { s with heap := h'.push (seqObj "list" (N.map fun q => Value.ref q.1).toArray 0), toks := tk }) (R := fun (v : Value) (q : Pp) => v = .ref q.1) (enc := fun q : Pp => (prD q.2).py) hoL (eachRef N) (each_all fun q hq => ⟨[], rd q hq, fun z => by cases z⟩) ?_ ?_ (by rw [sizeLine_eq]; omega) (fun q _ => ?_) fun out h1 h2 => ?_))
  · intro d hd' d' hd''
    obtain ⟨q, _, rfl⟩ := List.mem_map.mp hd'
    obtain ⟨r, _, rfl⟩ := List.mem_map.mp hd''
    rfl
  · left
    intro d hd'
    obtain ⟨q, _, rfl⟩ := List.mem_map.mp hd'
    exact ⟨_, _, rfl⟩
  · show X.A.in1.units + 1 + (prD q.2).dep < cLine
    have : (prD q.2).dep = 1 := rfl
    rw [this]
    simp [Around.in1]
    omega
  · have eo := refs_of h2
    obtain ⟨c, hcc⟩ := sortedHeap_at (vs := N.map fun q => Value.ref q.1) (out := out.toArray) hoL
    have pm := List.mergeSort_perm N (PySem.W.dataLe false fun q : Pp => (prD q.2).py)
    have rv : Vals ((N.mergeSort (PySem.W.dataLe false fun q : Pp => (prD q.2).py)).map fun q => V.ref q.1) out := by
      rw [eo]
      have := vals_refs ((N.mergeSort (PySem.W.dataLe false fun q : Pp => (prD q.2).py)).map (·.1))
      rw [List.map_map, List.map_map] at this
      exact this
    refine wpAny_pure ⟨_, rfl, .ref h'.objs.size, _, I1.laid (t' := tk) (o := .lst ((N.mergeSort (PySem.W.dataLe false fun q : Pp => (prD q.2).py)).map fun q => V.ref q.1)) (fun b u e => ?_) (Nat.le_refl _) ⟨by rw [List.length_map, pm.length_eq, sizeLine_eq]; omega, out, c, rv, hcc⟩, rfl, q N _ _ eP pm ?_ hN (I1.hok.fresh (Nat.le_refl _))⟩
    · have hlt := Heap.lt_size e
      show (sortedHeap (h'.push (seqObj "list" (N.map fun q => Value.ref q.1).toArray 0)) h'.objs.size _ out.toArray).get? b = some u
      rw [sortedHeap_old (Nat.ne_of_lt hlt) (by rw [size_push']; exact Nat.lt_succ_of_lt hlt)]
      exact Heap.get?_push_of_some _ e
    · exact List.pairwise_mergeSort (le := fun q r : Pp => lePr q.2 r.2) (fun a b c h1 h2 => lePr_tr _ _ _ h1 h2) (fun a b => lePr_to _ _) N
end
/-- keys that are pairs -/
def prsK : List (List Key) → Option (List (Str × Int))
  | [] => some []
  | [.inr a, .inl k] :: ks => (prsK ks).map fun ps => (a, k) :: ps
  | _ => none
theorem prsK_eq : ∀ {ks : List (List Key)} {ps : List (Str × Int)}, prsK ks = some ps → ks = ps.map prK := by
  intro ks
  induction ks with
  | nil => intro ps h; cases h; rfl
  | cons d ds ih =>
    intro ps h
    unfold prsK at h
    split at h
    · rename_i z; cases z
    · rename_i a k ds' z
      cases z
      cases q : prsK ds with
      | none => rw [q] at h; cases h
      | some ps' =>
        rw [q] at h
        cases h
        rw [ih q]
        rfl
    · cases h
theorem prsK_map : ∀ ps : List (Str × Int), prsK (ps.map prK) = some ps
  | [] => rfl
  | p :: ps => by show (prsK (ps.map prK)).map _ = _; rw [prsK_map ps]; rfl
def strOkP (p : Str × Int) : Bool := PyData.strOk p.1 && decide (p.1.length ≤ sizeLine)
def dSortD : D → R D
  | .dic true ks _ => match prsK ks with
    | some ps => if ps.length < 64 ∧ ps.all strOkP = true then .ok (.lst ((isort lePr ps).map prD)) else .stuck
    | none => .stuck
  | _ => .stuck
theorem dSortD_noexc (x : D) (c : Str) : dSortD x ≠ .exc c := by unfold dSortD; split <;> (try split) <;> (try split) <;> exact fun z => nomatch z
theorem prD_rd {K : Frag} {G : Hp} {p : Str × Int} {b : Addr} (h : strOkP p = true) (hb : G b = some (.tup [.str p.1, .int p.2])) : RD K G (.ref b) (prD p) := by
  obtain ⟨h1, h2⟩ := and2 h
  exact .tup ⟨[], by rw [pT_key rfl]; exact hb⟩ (by rw [sizeLine_eq]; show 2 ≤ 16777216; omega) (.cons (.str _ h1 (of_decide_eq_true h2)) (.cons (.int _) .nil))
theorem cd_sortd {K : Frag} : CallD K (fun xs H Q => ∃ (a : Addr) (kvs : List (List Key × V)) (ps : List (Str × Int)), xs = [V.ref a] ∧ Rd H a (.dT kvs) ∧ (kvs.map fun p => p.1) = ps.map prK ∧ ps.length < 64 ∧
    ∀ (N N' : List Pp) p, N.map (·.2) = ps → N'.Perm N → N'.Pairwise (fun q r => lePr q.2 r.2 = true) → (∀ q ∈ N, H q.1 = some (.tup [.str q.2.1, .int q.2.2])) → H p = none → Q (.ref p) (upd H p (.lst (N'.map fun q => V.ref q.1)))) (on1 dSortD) (.own .fz) := calld1 fun x dx d G H Q e r hg k => by
  unfold dSortD at hg
  split at hg
  · rename_i ks ds
    split at hg
    · rename_i ps hps
      split at hg
      · rename_i hk
        cases hg
        rcases r.dic e with ⟨z, _⟩ | ⟨_, a, kvs, rfl, hH, l, rfl, rs⟩
        · cases z
        · refine ⟨a, kvs, ps, rfl, .inl hH, prsK_eq hps, hk.1, fun N N' p eP pm pw hN hp => ?_⟩
          have mem : ∀ b ∈ N.map (·.1), ∃ vs, H b = some (.tup vs) := fun b hb => by
            obtain ⟨q, hq, rfl⟩ := List.mem_map.mp hb
            exact ⟨_, hN q hq⟩
          obtain ⟨j1, j2, j3⟩ := join_tup e mem
          have ok : ∀ q ∈ N, strOkP q.2 = true := fun q hq => List.all_eq_true.mp hk.2 _ (by rw [← eP]; exact List.mem_map.mpr ⟨q, hq, rfl⟩)
          have rd : RDs K (join G H (N.map (·.1))) (N'.map fun q => V.ref q.1) (N'.map fun q => prD q.2) := rds_prs fun q hq => by
            have hq := pm.mem_iff.mp hq
            exact prD_rd (ok q hq) (by rw [join_in (List.mem_map.mpr ⟨q, hq, rfl⟩)]; exact hN q hq)
          have em : N'.map (·.2) = isort lePr ps := by
            have p1 : (N'.map (·.2)).Perm ps := by rw [← eP]; exact pm.map _
            have p2 : (isort lePr ps).Perm ps := by rw [← msort_eq lePr_tr lePr_to]; exact List.mergeSort_perm ..
            have w2 : (isort lePr ps).Pairwise (fun a b => lePr a b = true) := by rw [← msort_eq lePr_tr lePr_to]; exact List.pairwise_mergeSort lePr_tr lePr_to _
            exact List.Perm.eq_of_pairwise (fun a b _ _ h1 h2 => lePr_anti h1 h2) (List.pairwise_map.mpr pw) w2 (p1.trans p2.symm)
          have e2 : (N'.map fun q : Pp => prD q.2) = (isort lePr ps).map prD := by rw [← em, List.map_map]; rfl
          rw [e2] at rd
          have lN : N'.length < 64 := by
            have := pm.length_eq
            have h2 : N.length = ps.length := by rw [← eP, List.length_map]
            have := hk.1
            omega
          have hpb : p ∉ N.map (·.1) := fun m => by
            obtain ⟨vs, q⟩ := mem p m
            rw [hp] at q; cases q
          have hpj : join G H (N.map (·.1)) p = none := by rw [join_out hpb]; exact e.free hp
          refine k (.ref p) (join G H (N.map (·.1))) _ ⟨j1, Same.upd hp, j2.trans (Same.upd hp), j3⟩ ⟨[p], .ol upd_same (by rw [List.length_map, sizeLine_eq]; omega) (OWs.fzs rd), by simp, fun c m => ?_⟩
          have : c = p := by simpa using m
          subst this
          exact ⟨hp, ⟨_, upd_same, fun _ z => nomatch z⟩, hpj⟩
      · cases hg
    · cases hg
  · cases hg
end Hr

end
section
/-! HrPar: a, b = x, y -/
namespace Hr
open PySem PySem.Spec L2 PyProof.Rows
section
variable {X : Cx} {B : Base} {W : WX} {Γ Γ1 Γ2 : Ow} {o : OC} {a b : Expr} {fa fb : En → R D} {pos : Pos}
/-- what is newly made goes into a slot -/
theorem own_set {K : Frag} {i : Nat} {t : OT} {s : En} {G H G1 H1 : Hp} {σ : St} {v : V} {d : D} (rl : Rel K B Γ s G σ H) (g1 : Grow G H G1 H1) (n : New K H G1 H1 v d t) (ht : oty Γ1 i = t) (hΓ : ∀ j, j ≠ i → oty Γ1 j = oty Γ j) (hl : i < s.length) :
    Rel K B Γ1 (s.set i (some d)) G1 (σ.set i (some v)) H1 := by
  have r1 := rl.grow g1
  obtain ⟨φ0, sl0, hf0⟩ := rl.sl
  obtain ⟨fq, ow, nd, ok⟩ := n
  have tm : Tmp K B Γ s G1 σ H1 v d t := by
    refine ⟨r1, φ0, fq, ⟨fun j d' q => ?_, sl0.nd, sl0.dj, fun j a m => ?_⟩, hf0, ow, nd, fun j a m q => (sl0.ok j a m).1.ne (ok a q).1, fun a m => ⟨(ok a m).2.1, (ok a m).2.2, ?_⟩⟩
    · obtain ⟨v', q1, o'⟩ := sl0.at_ j d' q
      exact ⟨v', q1, o'.mono g1.g fun a _ u z => g1.h a u z⟩
    · obtain ⟨h1, h2⟩ := sl0.ok j a m
      exact ⟨h1.mono g1.h, g1.nw a h2 h1⟩
    · exact rl.hH.free (ok a m).1
  exact tm.set i ht hΓ (by rw [← rl.len]; exact hl)
def sPar (i j : Nat) (fa fb : En → R D) : En → Out := fun s => (fa s).go s fun d => (fb s).go s fun e => outO ((ftName i d s).bind (ftName j e))
theorem sv_par {i j : Nat} {x y : Str} {px py pt : Pos} {kt k2 pt2} {t u : OT} (lx : leO Γ o.x) (hc : X.calm = true) (hN : X.N.Nodup) (hi : X.N[i]? = some x) (hj : X.N[j]? = some y) (hij : i ≠ j)
    (hx : X.env.scope.names.lookup x = some .local) (hy : X.env.scope.names.lookup y = some .local) (ha : EO X B W Γ t a fa) (hb : EO X B W Γ u b fb) (na : noStar a = true) (nb : noStar b = true)
    (h1 : oty Γ1 i = t) (h1' : ∀ k, k ≠ i → oty Γ1 k = oty Γ k) (h2 : oty Γ2 j = u) (h2' : ∀ k, k ≠ j → oty Γ2 k = oty Γ1 k)
    (hw : swappedStores [.Tuple [.Name x px, .Name y py] kt pt] (.Tuple [a, b] k2 pt2) X.env = pure (some [x, y]))
    (hs : swapsWithSole [.Tuple [.Name x px, .Name y py] kt pt] (.Tuple [a, b] k2 pt2) pos.line X.env = pure false) :
    SV X B W Γ Γ2 o (.Assign [.Tuple [.Name x px, .Name y py] kt pt] (.Tuple [a, b] k2 pt2) pos) (sPar i j fa fb) :=
  PS.imp (ps_par hc hN hi hj hij hx hy (pa_cons ha (pa_cons hb pa_nil (noStar_ok nb _ _)) (noStar_ok na _ _)) hw hs) fun Dn σ H ⟨s, G, rl, k⟩ =>
    ⟨s, G, rl, (Fin.go rl lx k).imp (fun d _ k v G1 H1 g1 n1 => ⟨s, G1, rl.grow g1, (Fin.go (rl.grow g1) lx (k.mono g1.g)).imp (fun e _ k w G2 H2 g2 n2 => by
      refine ⟨v, w, rfl, ?_⟩
      unfold ftName at k
      by_cases hl : i < s.length
      · rw [if_pos hl] at k
        by_cases hl2 : j < (s.set i (some d)).length
        · have k : Fin X.K B W Γ2 o G1 Dn (outO (if j < (s.set i (some d)).length then some ((s.set i (some d)).set j (some e)) else none)) := k
          rw [if_pos hl2] at k
          have r1 := own_set (Γ1 := Γ1) rl g1 n1 h1 h1' hl
          exact k _ G2 H2 g2.g (own_set (Γ1 := Γ2) r1 g2 n2 h2 h2' hl2)
        · have k : Fin X.K B W Γ2 o G1 Dn (outO (if j < (s.set i (some d)).length then some ((s.set i (some d)).set j (some e)) else none)) := k
          rw [if_neg hl2] at k
          exact k.elim
      · rw [if_neg hl] at k
        exact k.elim) fun _ z => z⟩) fun _ z => z⟩
/-- the same where a tuple is made and told item by item -/
theorem sv_parT {i j : Nat} {x y : Str} {px py pt : Pos} {kt k2 pt2} {t u : OT} (lx : leO Γ o.x) (hc : X.calm = true) (hN : X.N.Nodup) (hi : X.N[i]? = some x) (hj : X.N[j]? = some y) (hij : i ≠ j)
    (hx : L2.Loc X.env.scope x) (hy : L2.Loc X.env.scope y) (fx : X.fn x = true) (fy : X.fn y = true) (ha : EO X B W Γ t a fa) (hb : EO X B W Γ u b fb) (na : noStar a = true) (nb : noStar b = true)
    (h1 : oty Γ1 i = t) (h1' : ∀ k, k ≠ i → oty Γ1 k = oty Γ k) (h2 : oty Γ2 j = u) (h2' : ∀ k, k ≠ j → oty Γ2 k = oty Γ1 k)
    (hw : swappedStores [.Tuple [.Name x px, .Name y py] kt pt] (.Tuple [a, b] k2 pt2) X.env = pure none)
    (hs : swapsWithSole [.Tuple [.Name x px, .Name y py] kt pt] (.Tuple [a, b] k2 pt2) pos.line X.env = pure false) :
    SV X B W Γ Γ2 o (.Assign [.Tuple [.Name x px, .Name y py] kt pt] (.Tuple [a, b] k2 pt2) pos) (sPar i j fa fb) :=
  PS.imp (ps_asg (pe_tup (pa_cons ha (pa_cons hb pa_nil (noStar_ok nb _ _)) (noStar_ok na _ _))) (pg_tup hc (pgs_cons (pg_name hN hi hx (.inl fx)) (pgs_cons (pg_name hN hj hy (.inl fy)) pgs_nil))) hs hw rfl) fun Dn σ H ⟨s, G, rl, k⟩ =>
    ⟨s, G, rl, (Fin.go rl lx k).imp (fun d _ k v G1 H1 g1 n1 => ⟨s, G1, rl.grow g1, (Fin.go (rl.grow g1) lx (k.mono g1.g)).imp (fun e _ k w G2 H2 g2 n2 => by
      refine ⟨by show 2 ≤ sizeLine; rw [sizeLine_eq]; decide, fun p hp => ⟨p, [v, w], rfl, .inl (.inl upd_same), rfl, v, [w], rfl, w, [], rfl, rfl, ?_⟩⟩
      unfold ftName at k
      by_cases hl : i < s.length
      · rw [if_pos hl] at k
        have k : Fin X.K B W Γ2 o G1 Dn (outO (if j < (s.set i (some d)).length then some ((s.set i (some d)).set j (some e)) else none)) := k
        by_cases hl2 : j < (s.set i (some d)).length
        · rw [if_pos hl2] at k
          have r1 := own_set (Γ1 := Γ1) rl g1 n1 h1 h1' hl
          have r2 := own_set (Γ1 := Γ2) r1 g2 n2 h2 h2' hl2
          have g3 : Grow G2 H2 G2 (upd H2 p (.tup [v, w])) := ⟨.refl _, Same.upd hp, g2.gh.trans (Same.upd hp), fun _ h _ => h⟩
          exact k _ G2 _ g2.g (r2.grow g3)
        · rw [if_neg hl2] at k
          exact k.elim
      · rw [if_neg hl] at k
        exact k.elim) fun _ z => z⟩) fun _ z => z⟩
end
/-- when the stores go the other way about -/
def parB (a b : Expr) (px py : Pos) (x y : Str) : Bool := (py.line == px.line) && !(x == y) && noStar a && noStar b && !(foldedForSure 8 a && foldedForSure 8 b) && !(constantsAlone 8 a && constantsAlone 8 b)
theorem parB_ok {a b : Expr} {px py pt pt2 : Pos} {kt k2 : Nat} {x y : Str} {env : Env} (h : parB a b px py x y = true) (bk : env.blockKind = .function) (hx : env.scope.names.lookup x = some .local) (hy : env.scope.names.lookup y = some .local) :
    swappedStores [.Tuple [.Name x px, .Name y py] kt pt] (.Tuple [a, b] k2 pt2) env = pure (some [x, y]) := by
  unfold parB at h
  simp only [Bool.and_eq_true, Bool.not_eq_true'] at h
  obtain ⟨⟨⟨⟨⟨h1, h2⟩, h3⟩, h4⟩, h5⟩, h6⟩ := h
  have kx : env.kindOf x = some .local := hx
  have ky : env.kindOf y = some .local := hy
  have hne : (y == x) = false := by
    rw [Bool.eq_false_iff] at h2 ⊢
    intro z
    exact h2 (by rw [beq_iff_eq] at z ⊢; exact z.symm)
  unfold swappedStores
  have l1 : (Expr.Name x px).pos.line = px.line := rfl
  have h1' : py.line = px.line := by simpa using h1
  simp [bk, kx, ky, h5, h6, Expr.pos, h1', List.eraseDups_cons, h2, hne]
  rintro (z | z)
  · split at z
    · cases h3
    · cases z
  · split at z
    · cases h4
    · cases z
theorem parN_ok {a b : Expr} {px py pt pt2 : Pos} {kt k2 : Nat} {x y : Str} {env : Env} (h : ¬ (env.scope.names.lookup x = some .local ∧ env.scope.names.lookup y = some .local)) :
    swappedStores [.Tuple [.Name x px, .Name y py] kt pt] (.Tuple [a, b] k2 pt2) env = pure none := by
  have hk : ∀ z, env.kindOf z = env.scope.names.lookup z := fun _ => rfl
  unfold swappedStores
  simp only [hk]
  by_cases hx : env.scope.names.lookup x = some .local
  · have hy : ¬ env.scope.names.lookup y = some .local := fun z => h ⟨hx, z⟩
    simp [hx, hy, Expr.pos]
  · by_cases hy : env.scope.names.lookup y = some .local
    · by_cases hl : py.line = px.line
      · simp [hx, hy, Expr.pos, hl]
      · simp [hx, hy, Expr.pos, hl]
    · simp [hx, hy]
end Hr

end
section
/-! HrK: the text by a term of our own, what it computes, and that it does -/
namespace Hr
open PySem PySem.Spec L2

inductive TG where
  | nm (i : Nat) | tp (l : TG) | nil | cons (a l : TG)
structure TGd where
  f : FT
  l : List D → En → Option En
def tgd : TG → TGd
  | .nm i => ⟨ftName i, fun _ _ => none⟩
  | .tp l => ⟨ftTup (tgd l).l, fun _ _ => none⟩
  | .nil => ⟨fun _ _ => none, ftNil⟩
  | .cons a l => ⟨fun _ _ => none, ftCons (tgd a).f (tgd l).l⟩
def TG.len : TG → Nat
  | .cons _ l => l.len + 1
  | _ => 0

inductive BI where
  | len | tuple | list | all | any | max | sum | int | sorted | str | listd | sortd
def biName : BI → Str
  | .len => "len" | .tuple => "tuple" | .list => "list" | .all => "all" | .any => "any" | .max => "max" | .sum => "sum" | .int => "int" | .sorted => "sorted" | .str => "str" | .listd => "list" | .sortd => "sorted"
def biF : BI → List D → R D
  | .len => on1 dLen
  | .tuple => on1 dTuple
  | .list => on1 dList
  | .all => on1 dAll
  | .any => on1 dAny
  | .max => on1 dMax
  | .sum => on1 dSum
  | .int => on1 dInt
  | .sorted => on1 dSort
  | .str => on1 dStr
  | .listd => on1 dListD
  | .sortd => on1 dSortD
def biT : BI → OT
  | .list => .own .fz
  | .listd => .own .fz
  | .sortd => .own .fz
  | .sorted => .own .fz
  | _ => .fz
/-- the built-in names that are used -/
def BL : List Str := ["len", "tuple", "list", "all", "any", "max", "sum", "int", "isinstance", "range", "enumerate", "zip", "str", "bool", "sorted", "set", "dict"]

inductive T where
  | var (i : Nat) | con (d : D) | glo (x : Str) (d : D) | neg (a : T)
  | bin (op : Operator) (a b : T) | cmp (op : CmpOp) (a b : T) | chn (o1 o2 : CmpOp) (a b c : T)
  | and (a b : T) | or (a b : T) | not (a : T) | one (a : T) | ife (c a b : T)
  | nil | cons (a l : T) | no
  | tup (l : T) | lst (l : T) | sub (a b : T) | sli (a lo hi : T)
  | call (x : Str) (n : Nat) (t : OT) (k : Nat) (φ : List D → R D) (l : T)
  | bi (b : BI) (l : T) | isi (t : String) (a : T) | idx (a b : T) | cnt (a b : T) | join (a b : T) | ise (c : Str) (tb : List (Str × Bool)) (a : T)
  | lc (own : List (Str × Nat)) (elt : T) (tg : TG) (it ifs : T)
  | lset (a : T) | itS (a : T)
  | itI (a : T) | itR1 (l : T) | itR2 (l : T) | itE (l : T) | itZ (l : T) | itEZ (l : T)
  | dnew (t : Bool) | dnew2 | sub2 (i : Nat) (k : T)
  | sset (a : T) | revt (a : T)
  | dict (a : T) | get2 (a b c : T) | revl (a : T)
  | spl (a b : T) | fst (c : Str) (a b : T) | qrep (c y z : Str) (a : T)
structure Den where
  v : En → R D
  t : En → R Bool
  l : En → R (List D)
  p : En → R (Option Int)
def mkD (v : En → R D) : Den := ⟨v, eTru v, fun _ => .stuck, ePart (some v)⟩
def den : T → Den
  | .var i => mkD (eVar i)
  | .con d => mkD (eCon d)
  | .glo _ d => mkD (eCon d)
  | .neg a => mkD (eNeg (den a).v)
  | .bin op a b => mkD (eBin (dBin op) (den a).v (den b).v)
  | .cmp op a b => ⟨eB (eCmp op (den a).v (den b).v), eCmp op (den a).v (den b).v, fun _ => .stuck, fun _ => .stuck⟩
  | .chn o1 o2 a b c => ⟨eB (eChn o1 o2 (den a).v (den b).v (den c).v), eChn o1 o2 (den a).v (den b).v (den c).v, fun _ => .stuck, fun _ => .stuck⟩
  | .and a b => ⟨eAndV (den a).v (den b).v, eAnd (den a).t (den b).t, fun _ => .stuck, fun _ => .stuck⟩
  | .or a b => ⟨eOrV (den a).v (den b).v, eOr (den a).t (den b).t, fun _ => .stuck, fun _ => .stuck⟩
  | .not a => ⟨eNotV (den a).v, eNot (den a).t, fun _ => .stuck, fun _ => .stuck⟩
  | .one a => den a
  | .ife c a b => mkD (eIf (den c).t (den a).v (den b).v)
  | .nil => ⟨fun _ => .stuck, fun _ => .stuck, eNil, fun _ => .stuck⟩
  | .cons a l => ⟨fun _ => .stuck, fun _ => .stuck, eCons (den a).v (den l).l, fun _ => .stuck⟩
  | .no => ⟨fun _ => .stuck, eYes, fun _ => .stuck, ePart none⟩
  | .tup l => mkD (eTup (den l).l)
  | .lst l => mkD (eLst (den l).l)
  | .sub a b => mkD (eBin dSub2 (den a).v (den b).v)
  | .sli a lo hi => mkD (eSl (den a).v (den lo).p (den hi).p)
  | .call _ n _ _ φ l => mkD (eCall φ n (den l).l)
  | .bi b l => mkD (eApp (biF b) (den l).l)
  | .isi t a => mkD (eIsi t (den a).v)
  | .idx a b => mkD (eIndex (den a).v (den b).v)
  | .cnt a b => mkD (eCount (den a).v (den b).v)
  | .join a b => mkD (eM1 dJoin (den a).v (den b).v)
  | .ise _ tb a => mkD (eIse tb (den a).v)
  | .lc own elt tg it ifs => mkD (eLc (own.map (·.2)) (tgd tg).f (den it).l (den ifs).t (den elt).v)
  | .lset a => mkD (eLenSet (den a).v)
  | .itS a => ⟨fun _ => .stuck, fun _ => .stuck, eItS (den a).v, fun _ => .stuck⟩
  | .itI a => ⟨fun _ => .stuck, fun _ => .stuck, eItems (den a).v, fun _ => .stuck⟩
  | .itR1 l => ⟨fun _ => .stuck, fun _ => .stuck, eRng1 (den l).l, fun _ => .stuck⟩
  | .itR2 l => ⟨fun _ => .stuck, fun _ => .stuck, eRng2 (den l).l, fun _ => .stuck⟩
  | .itE l => ⟨fun _ => .stuck, fun _ => .stuck, eEnum (den l).l, fun _ => .stuck⟩
  | .itZ l => ⟨fun _ => .stuck, fun _ => .stuck, eZip (den l).l, fun _ => .stuck⟩
  | .itEZ l => ⟨fun _ => .stuck, fun _ => .stuck, eEnumZ (den l).l, fun _ => .stuck⟩
  | .dnew t => mkD (eCon (.dic t [] []))
  | .dnew2 => mkD (eCon (.dic false [] []))
  | .sub2 i k => mkD (eSub2 i (den k).v)
  | .sset a => mkD (eSortSet (den a).v)
  | .revt a => mkD (eRevT (den a).v)
  | .dict a => mkD (eDict (den a).v)
  | .get2 a b c => mkD (eGet2 (den a).v (den b).v (den c).v)
  | .revl a => mkD (eRevL (den a).v)
  | .spl a b => mkD (eM1 dSplit (den a).v (den b).v)
  | .fst c a b => mkD (eFst c (den a).v (den b).v)
  | .qrep c y z a => mkD (eRep c y z (den a).v)

/-! ### checks -/
def glB (sc : Scope) (x : Str) : Bool := (match sc.names.lookup x with | some .globalImplicit => true | _ => false) && !(x == ("__debug__" : Str))
def visB (sc : Scope) (x : Str) : Bool := (match sc.names.lookup x with | some .local => true | some .cell => true | some .free => true | _ => false) && (!(x == ("__debug__" : Str)) && !(x == ("__classdict__" : Str)))
def locB (sc : Scope) (x : Str) : Bool := match sc.names.lookup x with | some .local => true | some .cell => true | _ => false
def lclB (sc : Scope) (x : Str) : Bool := match sc.names.lookup x with | some .local => true | _ => false
theorem glB_ok {X : Cx} {x : Str} (h : glB X.env.scope x = true) : Gl X x ∧ (x == ("__debug__" : Str)) = false := by
  unfold glB at h
  obtain ⟨h1, h2⟩ := Bool.and_eq_true_iff.mp h
  refine ⟨?_, by simpa using h2⟩
  show X.env.scope.names.lookup x = some .globalImplicit
  split at h1
  · assumption
  · cases h1
theorem visB_ok {sc : Scope} {x : Str} (h : visB sc x = true) : Vis sc x ∧ (x == ("__debug__" : Str)) = false ∧ (x == ("__classdict__" : Str)) = false := by
  unfold visB at h
  obtain ⟨h1, h2⟩ := Bool.and_eq_true_iff.mp h
  obtain ⟨h2, h3⟩ := Bool.and_eq_true_iff.mp h2
  refine ⟨?_, by simpa using h2, by simpa using h3⟩
  unfold Vis
  split at h1
  · exact .inl (by assumption)
  · exact .inr (.inl (by assumption))
  · exact .inr (.inr (by assumption))
  · cases h1
theorem locB_ok {sc : Scope} {x : Str} (h : locB sc x = true) : L2.Loc sc x := by
  unfold locB at h
  unfold L2.Loc
  split at h
  · exact .inl (by assumption)
  · exact .inr (by assumption)
  · cases h
theorem lclB_ok {sc : Scope} {x : Str} (h : lclB sc x = true) : sc.names.lookup x = some .local := by
  unfold lclB at h
  split at h
  · assumption
  · cases h
def conB : D → Const → Bool
  | .non, .none => true
  | .bl b, .bool c => b == c
  | .int i, .int j => decide (i = j)
  | .str x, .str y => decide (x = y) && (PyData.strOk x && decide (x.length ≤ sizeLine))
  | _, _ => false
def isTupE : Expr → Bool
  | .Tuple _ _ _ => true
  | _ => false
/-- how an expression is asked for: frozen, to be read, a test, a test in a chain, walked, walked and frozen, owned -/
inductive Md where
  | v | b | t | w | i (tg : Expr) | f (tg : Expr) | o (t : OT)
abbrev Ck := Scope → Md → Sum Expr (List Expr) → Bool
/-- asked for as a value that is made: frozen, read, tested by its truth -/
def Md.val : Md → Expr → Bool
  | .v, _ => true
  | .b, _ => true
  | .t, e => plainTest e
  | _, _ => false
abbrev FKt := Str → Nat → OT → Nat → (List D → R D) → Prop
/-- what is known of the module: defs, constants, own exceptions, what except clauses take, what isinstance tells of exceptions -/
structure Kn where
  FK : FKt
  GK : Str → D → Prop
  XK : Str → Prop
  MK : Str → List (Str × Bool) → Prop
  IK : Str → List (Str × Bool) → Prop
/-- the name c stands for the class cv, of which isinstance tells tb -/
def IsTb (K : Frag) (mg : Str → Option Value) (c : Str) (tb : List (Str × Bool)) : Prop := ∃ (v : V) (cv : Value), ((mg c = some cv) ∨ (mg c = none ∧ bootBuiltins c = some cv ∧ c ≠ "__name__")) ∧ RelV v cv ∧ (∀ u, RelV v u → u = cv) ∧
  ∀ d r, tb.lookup d = some r → ExcC K (He.ga K d) ∧ PySem.W.kitOne K (clsV K d) cv = some r
/-- what is known where the code runs -/
structure Cok (N : List Str) (kk : Nat) (kn : Kn) (X : Cx) (sc : Scope) (W : WX) : Prop where
  hN : X.N = N
  hS : X.env.scope = sc
  calm : X.calm = true
  nd : N.Nodup
  room : Room kk X.A
  tk : Takes X W
  blt : ∀ x ∈ BL, X.mg x = none
  fk : ∀ x n t k φ, kn.FK x n t k φ → k ≤ kk ∧ Fok X.prog X.w X.K X.mg X.base x n t k φ
  gk : ∀ x d, kn.GK x d → ∃ u v, X.mg x = some u ∧ RelV v u ∧ ∀ G, RD X.K G v d
  ik : ∀ c tb, kn.IK c tb → IsTb X.K X.mg c tb
def Snd (X : Cx) (B : Base) (W : WX) (Γ : Ow) (d : Den) : Md → Sum Expr (List Expr) → Prop
  | .v, .inl e => EV X B W Γ e d.v
  | .b, .inl e => EB X B W Γ e d.v
  | .t, .inl e => ET X B W Γ e d.t
  | .w, .inl e => EW X B W Γ e d.t
  | .i tg, .inl e => EI X B W Γ tg e d.l
  | .f tg, .inl e => EIf X B W Γ tg e d.l
  | .o t, .inl e => EO X B W Γ t e d.v
  | .v, .inr es => EVs X B W Γ es d.l
  | .b, .inr es => EBs X B W Γ es d.l
  | _, .inr _ => False
def SndC (N : List Str) (kk : Nat) (kn : Kn) (Γ : Ow) (c : Ck) (d : Den) : Prop := ∀ (X : Cx) (B : Base) (W : WX) (sc : Scope), Cok N kk kn X sc W → ∀ m e, c sc m e = true → Snd X B W Γ d m e
theorem EV.val {X : Cx} {B : Base} {W : WX} {Γ : Ow} {e : Expr} {f : En → R D} {m : Md} (h : EV X B W Γ e f) (hm : m.val e = true) : Snd X B W Γ (mkD f) m (.inl e) := by
  cases m with
  | v => exact h
  | b => exact h.bo
  | t => exact et_tru hm h.bo
  | _ => cases hm
theorem EV.ow {X : Cx} {B : Base} {W : WX} {Γ : Ow} {e : Expr} {f : En → R D} (h : EV X B W Γ e f) : EO X B W Γ .fz e f := PE.imp h fun σ H Q ⟨s, G, r, k⟩ => ⟨s, G, r, k.imp (fun d _ k v G' H' g rd => k v G' H' g (.fz rd)) fun _ z => z⟩
/-- asked for as a thing that is made new, owned as t -/
def Md.made (t : OT) : Md → Expr → Bool
  | .o t', _ => decide (t' = t)
  | m, e => m.val e
theorem EO.made {X : Cx} {B : Base} {W : WX} {Γ : Ow} {e : Expr} {f : En → R D} {m : Md} {t : OT} (h : EO X B W Γ t e f) (hm : m.made t e = true) : Snd X B W Γ (mkD f) m (.inl e) := by
  cases m with
  | o t' => have : t' = t := of_decide_eq_true hm; subst this; exact h
  | v => exact h.v
  | b => exact h.v.bo
  | t => exact et_tru hm h.v.bo
  | _ => cases hm
section
variable {N : List Str} {kk : Nat} {kn : Kn} {Γ : Ow} {ca cb cc : Ck} {da db dc : Den}
def kVar (N : List Str) (Γ : Ow) (i : Nat) : Ck := fun sc m e => match e with
  | .inl (.Name x _) => decide (N[i]? = some x) && visB sc x && (match m with
      | .v => decide (oty Γ i = .fz)
      | .b => decide (oty Γ i = .fz) || decide (oty Γ i = .own .fz)
      | .t => decide (oty Γ i = .fz) || decide (oty Γ i = .own .fz)
      | _ => false)
  | _ => false
theorem s_var (i : Nat) : SndC N kk kn Γ (kVar N Γ i) (den (.var i)) := by
  intro X B W sc hX m e h
  unfold kVar at h
  split at h
  · rename_i x p
    obtain ⟨h, h3⟩ := and2 h
    obtain ⟨h1, h2⟩ := and2 h
    have hN : X.N[i]? = some x := by rw [hX.hN]; exact of_decide_eq_true h1
    obtain ⟨hv, d1, d2⟩ := visB_ok (sc := X.env.scope) (x := x) (by rw [hX.hS]; exact h2)
    cases m with
    | v => exact ev_var hN hv d1 d2 (of_decide_eq_true h3)
    | b => exact eb_var hN hv d1 d2 ((Bool.or_eq_true_iff.mp h3).imp of_decide_eq_true of_decide_eq_true)
    | t => exact et_tru rfl (eb_var hN hv d1 d2 ((Bool.or_eq_true_iff.mp h3).imp of_decide_eq_true of_decide_eq_true))
    | _ => cases h3
  · cases h
def kCon (d : D) : Ck := fun sc m e => match e with
  | .inl (.Constant c k p) => conB d c && m.val (.Constant c k p)
  | _ => false
theorem s_con (d : D) : SndC N kk kn Γ (kCon d) (den (.con d)) := by
  intro X B W sc hX m e h
  unfold kCon at h
  split at h
  · rename_i c k p
    obtain ⟨h1, h2⟩ := and2 h
    refine EV.val ?_ h2
    cases d with
    | non => cases c with
      | none => exact ev_con pe_non fun _ => .non
      | _ => cases h1
    | bl b => cases c with
      | bool c => have : b = c := by simpa [conB] using h1
                  subst this; exact ev_con pe_bl fun _ => .bl _
      | _ => cases h1
    | int i => cases c with
      | int j => have : i = j := of_decide_eq_true h1
                 subst this; exact ev_con pe_int fun _ => .int _
      | _ => cases h1
    | str x => cases c with
      | str y =>
        obtain ⟨e1, h3⟩ := and2 (show (decide (x = y) && (PyData.strOk x && decide (x.length ≤ sizeLine))) = true from h1)
        obtain ⟨e2, e3⟩ := and2 h3
        have : x = y := of_decide_eq_true e1
        subst this; exact ev_con pe_str fun _ => .str _ e2 (of_decide_eq_true e3)
      | _ => cases h1
    | _ => cases c <;> cases h1
  · cases h
def kGlo (x : Str) : Ck := fun sc m e => match e with
  | .inl (.Name y p) => decide (x = y) && glB sc x && m.val (.Name y p)
  | _ => false
theorem s_glo {x : Str} {d : D} (hg : kn.GK x d) : SndC N kk kn Γ (kGlo x) (den (.glo x d)) := by
  intro X B W sc hX m e h
  unfold kGlo at h
  split at h
  · rename_i y p
    obtain ⟨h, h3⟩ := and2 h
    obtain ⟨h1, h2⟩ := and2 h
    have : x = y := of_decide_eq_true h1
    subst this
    obtain ⟨g, db⟩ := glB_ok (X := X) (by rw [hX.hS]; exact h2)
    obtain ⟨u, v, e1, e2, e3⟩ := hX.gk x d hg
    exact EV.val (ev_con (pe_glob g e1 e2 db) e3) h3
  · cases h
def kNeg (ca : Ck) : Ck := fun sc m e => match e with
  | .inl (.UnaryOp .USub a p) => ca sc .b (.inl a) && m.val (.UnaryOp .USub a p)
  | _ => false
theorem s_neg {a : T} (ha : SndC N kk kn Γ ca (den a)) : SndC N kk kn Γ (kNeg ca) (den (.neg a)) := by
  intro X B W sc hX m e h
  unfold kNeg at h
  split at h
  · obtain ⟨h1, h2⟩ := and2 h
    exact EV.val (ev_neg (ha X B W sc hX .b _ h1)) h2
  · cases h
def arith : Operator → Bool
  | .Add => true | .Sub => true | .Mult => true | .Mod => true | .FloorDiv => true | .Pow => true | _ => false
def kBin (op : Operator) (ca cb : Ck) : Ck := fun sc m e => match e with
  | .inl (.BinOp a op' b p) => decide (op = op') && arith op && ca sc .b (.inl a) && cb sc .b (.inl b) && m.val (.BinOp a op' b p)
  | _ => false
theorem s_bin {op : Operator} {a b : T} (ha : SndC N kk kn Γ ca (den a)) (hb : SndC N kk kn Γ cb (den b)) : SndC N kk kn Γ (kBin op ca cb) (den (.bin op a b)) := by
  intro X B W sc hX m e h
  unfold kBin at h
  split at h
  · obtain ⟨h, h5⟩ := and2 h
    obtain ⟨h, h4⟩ := and2 h
    obtain ⟨h, h3⟩ := and2 h
    obtain ⟨h1, h2⟩ := and2 h
    have e1 := of_decide_eq_true h1
    subst e1
    exact EV.val (ev_bin (by cases op <;> first | rfl | cases h2) (ha X B W sc hX .b _ h3) (hb X B W sc hX .b _ h4)) h5
  · cases h
/-- a comparison is asked for as a value or a test -/
def Md.vt : Md → Bool
  | .v => true | .b => true | .t => true | _ => false
theorem vt_ok {X : Cx} {B : Base} {W : WX} {Γ : Ow} {e : Expr} {g : En → R Bool} {m : Md} {d : Den} (hv : d.v = eB g) (ht : d.t = g) (h1 : EV X B W Γ e (eB g)) (h2 : ET X B W Γ e g) (hm : m.vt = true) : Snd X B W Γ d m (.inl e) := by
  cases m with
  | v => show EV X B W Γ e d.v; rw [hv]; exact h1
  | b => show EB X B W Γ e d.v; rw [hv]; exact h1.bo
  | t => show ET X B W Γ e d.t; rw [ht]; exact h2
  | _ => cases hm
theorem Cok.un {X : Cx} {sc : Scope} {W : WX} (hX : Cok N kk kn X sc W) : X.A.units + 65 < cLine := by
  have := hX.room.un
  omega
def kCmp (op : CmpOp) (ca cb : Ck) : Ck := fun sc m e => match e with
  | .inl (.Compare a [op'] [b] p) => decide (op = op') && !(behindInMarks op b) && ca sc .b (.inl a) && cb sc .b (.inl b) && m.vt
  | _ => false
theorem s_cmp {op : CmpOp} {a b : T} (ha : SndC N kk kn Γ ca (den a)) (hb : SndC N kk kn Γ cb (den b)) : SndC N kk kn Γ (kCmp op ca cb) (den (.cmp op a b)) := by
  intro X B W sc hX m e h
  unfold kCmp at h
  split at h
  · obtain ⟨h, h5⟩ := and2 h
    obtain ⟨h, h4⟩ := and2 h
    obtain ⟨h, h3⟩ := and2 h
    obtain ⟨h1, h2⟩ := and2 h
    have e1 := of_decide_eq_true h1
    subst e1
    have hm := by simpa using h2
    have hu : X.A.units + 64 < cLine := by have := hX.un; omega
    exact vt_ok rfl rfl (ev_cmp hu hm (ha X B W sc hX .b _ h3) (hb X B W sc hX .b _ h4)) (et_cmp hu hm (ha X B W sc hX .b _ h3) (hb X B W sc hX .b _ h4)) h5
  · cases h
def kChn (o1 o2 : CmpOp) (ca cb cc : Ck) : Ck := fun sc m e => match e with
  | .inl (.Compare a [p1, p2] [b, c] p) => decide (o1 = p1) && decide (o2 = p2) && !(lastMarks [o1, o2] [b, c]) && ca sc .b (.inl a) && cb sc .b (.inl b) && cc sc .b (.inl c) && m.vt
  | _ => false
theorem s_chn {o1 o2 : CmpOp} {a b c : T} (ha : SndC N kk kn Γ ca (den a)) (hb : SndC N kk kn Γ cb (den b)) (hc : SndC N kk kn Γ cc (den c)) : SndC N kk kn Γ (kChn o1 o2 ca cb cc) (den (.chn o1 o2 a b c)) := by
  intro X B W sc hX m e h
  unfold kChn at h
  split at h
  · obtain ⟨h, h7⟩ := and2 h
    obtain ⟨h, h6⟩ := and2 h
    obtain ⟨h, h5⟩ := and2 h
    obtain ⟨h, h4⟩ := and2 h
    obtain ⟨h, h3⟩ := and2 h
    obtain ⟨h1, h2⟩ := and2 h
    have e1 := of_decide_eq_true h1
    have e2 := of_decide_eq_true h2
    subst e1 e2
    have hm := by simpa using h3
    have hu : X.A.units + 64 < cLine := by have := hX.un; omega
    exact vt_ok rfl rfl (ev_chn hu hm (ha X B W sc hX .b _ h4) (hb X B W sc hX .b _ h5) (hc X B W sc hX .b _ h6)) (et_chn hu hm (ha X B W sc hX .b _ h4) (hb X B W sc hX .b _ h5) (hc X B W sc hX .b _ h6)) h7
  · cases h
def kAnd (ca cb : Ck) : Ck := fun sc m e => match e with
  | .inl (.BoolOp .And (a :: b :: es) p) => (match m with
      | .v => ca sc .v (.inl a) && cb sc .v (.inl (.BoolOp .And (b :: es) p))
      | .b => ca sc .v (.inl a) && cb sc .v (.inl (.BoolOp .And (b :: es) p))
      | .t => ca sc .t (.inl a) && cb sc .w (.inl (.BoolOp .And (b :: es) p))
      | .w => ca sc .t (.inl a) && cb sc .w (.inl (.BoolOp .And (b :: es) p))
      | _ => false)
  | _ => false
theorem s_and {a b : T} (ha : SndC N kk kn Γ ca (den a)) (hb : SndC N kk kn Γ cb (den b)) : SndC N kk kn Γ (kAnd ca cb) (den (.and a b)) := by
  intro X B W sc hX m e h
  unfold kAnd at h
  split at h
  · cases m with
    | v => obtain ⟨h1, h2⟩ := and2 h; exact ev_and (ha X B W sc hX .v _ h1) (hb X B W sc hX .v _ h2)
    | b => obtain ⟨h1, h2⟩ := and2 h; exact EV.bo (ev_and (ha X B W sc hX .v _ h1) (hb X B W sc hX .v _ h2))
    | t => obtain ⟨h1, h2⟩ := and2 h; exact PW.pt (ew_and (ha X B W sc hX .t _ h1) (hb X B W sc hX .w _ h2))
    | w => obtain ⟨h1, h2⟩ := and2 h; exact ew_and (ha X B W sc hX .t _ h1) (hb X B W sc hX .w _ h2)
    | _ => cases h
  · cases h
def kOr (ca cb : Ck) : Ck := fun sc m e => match e with
  | .inl (.BoolOp .Or (a :: b :: es) p) => (match m with
      | .v => ca sc .v (.inl a) && cb sc .v (.inl (.BoolOp .Or (b :: es) p))
      | .b => ca sc .v (.inl a) && cb sc .v (.inl (.BoolOp .Or (b :: es) p))
      | .t => ca sc .t (.inl a) && cb sc .w (.inl (.BoolOp .Or (b :: es) p))
      | .w => ca sc .t (.inl a) && cb sc .w (.inl (.BoolOp .Or (b :: es) p))
      | _ => false)
  | _ => false
theorem s_or {a b : T} (ha : SndC N kk kn Γ ca (den a)) (hb : SndC N kk kn Γ cb (den b)) : SndC N kk kn Γ (kOr ca cb) (den (.or a b)) := by
  intro X B W sc hX m e h
  unfold kOr at h
  split at h
  · cases m with
    | v => obtain ⟨h1, h2⟩ := and2 h; exact ev_or (ha X B W sc hX .v _ h1) (hb X B W sc hX .v _ h2)
    | b => obtain ⟨h1, h2⟩ := and2 h; exact EV.bo (ev_or (ha X B W sc hX .v _ h1) (hb X B W sc hX .v _ h2))
    | t => obtain ⟨h1, h2⟩ := and2 h; exact PW.pt (ew_or (ha X B W sc hX .t _ h1) (hb X B W sc hX .w _ h2))
    | w => obtain ⟨h1, h2⟩ := and2 h; exact ew_or (ha X B W sc hX .t _ h1) (hb X B W sc hX .w _ h2)
    | _ => cases h
  · cases h
def kOne (ca : Ck) : Ck := fun sc m e => match e with
  | .inl (.BoolOp _ [a] _) => (match m with
      | .v => ca sc .v (.inl a)
      | .w => ca sc .t (.inl a)
      | _ => false)
  | _ => false
theorem s_one {a : T} (ha : SndC N kk kn Γ ca (den a)) : SndC N kk kn Γ (kOne ca) (den (.one a)) := by
  intro X B W sc hX m e h
  unfold kOne at h
  split at h
  · cases m with
    | v => exact ev_one (ha X B W sc hX .v _ h)
    | w => exact ew_one (ha X B W sc hX .t _ h)
    | _ => cases h
  · cases h
def kNot (ca : Ck) : Ck := fun sc m e => match e with
  | .inl (.UnaryOp .Not a _) => (match m with
      | .v => ca sc .b (.inl a)
      | .b => ca sc .b (.inl a)
      | .t => ca sc .t (.inl a)
      | _ => false)
  | _ => false
theorem s_not {a : T} (ha : SndC N kk kn Γ ca (den a)) : SndC N kk kn Γ (kNot ca) (den (.not a)) := by
  intro X B W sc hX m e h
  unfold kNot at h
  split at h
  · cases m with
    | v => exact ev_not (ha X B W sc hX .b _ h)
    | b => exact EV.bo (ev_not (ha X B W sc hX .b _ h))
    | t => exact et_not (ha X B W sc hX .t _ h)
    | _ => cases h
  · cases h
def kIfe (cc ca cb : Ck) : Ck := fun sc m e => match e with
  | .inl (.IfExp c a b p) => cc sc .t (.inl c) && ca sc .v (.inl a) && cb sc .v (.inl b) && m.val (.IfExp c a b p)
  | _ => false
theorem s_ife {c a b : T} (hc : SndC N kk kn Γ cc (den c)) (ha : SndC N kk kn Γ ca (den a)) (hb : SndC N kk kn Γ cb (den b)) : SndC N kk kn Γ (kIfe cc ca cb) (den (.ife c a b)) := by
  intro X B W sc hX m e h
  unfold kIfe at h
  split at h
  · obtain ⟨h, h4⟩ := and2 h
    obtain ⟨h, h3⟩ := and2 h
    obtain ⟨h1, h2⟩ := and2 h
    exact EV.val (ev_ife (hc X B W sc hX .t _ h1) (ha X B W sc hX .v _ h2) (hb X B W sc hX .v _ h3)) h4
  · cases h
def kNil : Ck := fun _ m e => match e with
  | .inr [] => (match m with | .v => true | .b => true | _ => false)
  | _ => false
theorem s_nil : SndC N kk kn Γ kNil (den .nil) := by
  intro X B W sc hX m e h
  unfold kNil at h
  split at h
  · cases m with
    | v => exact evs_nil
    | b => exact ebs_nil
    | _ => cases h
  · cases h
def kCons (ca cl : Ck) : Ck := fun sc m e => match e with
  | .inr (a :: es) => noStar a && (match m with
      | .v => ca sc .v (.inl a) && cl sc .v (.inr es)
      | .b => ca sc .b (.inl a) && cl sc .b (.inr es)
      | _ => false)
  | _ => false
theorem s_cons {a l : T} (ha : SndC N kk kn Γ ca (den a)) (hl : SndC N kk kn Γ cb (den l)) : SndC N kk kn Γ (kCons ca cb) (den (.cons a l)) := by
  intro X B W sc hX m e h
  unfold kCons at h
  split at h
  · obtain ⟨h0, h⟩ := and2 h
    cases m with
    | v => obtain ⟨h1, h2⟩ := and2 h; exact evs_cons h0 (ha X B W sc hX .v _ h1) (hl X B W sc hX .v _ h2)
    | b => obtain ⟨h1, h2⟩ := and2 h; exact ebs_cons h0 (ha X B W sc hX .b _ h1) (hl X B W sc hX .b _ h2)
    | _ => cases h
  · cases h
def kTup (cl : Ck) : Ck := fun sc m e => match e with
  | .inl (.Tuple es k p) => cl sc .v (.inr es) && m.val (.Tuple es k p)
  | _ => false
theorem s_tup {l : T} (hl : SndC N kk kn Γ ca (den l)) : SndC N kk kn Γ (kTup ca) (den (.tup l)) := by
  intro X B W sc hX m e h
  unfold kTup at h
  split at h
  · obtain ⟨h1, h2⟩ := and2 h
    exact EV.val (ev_tup (hl X B W sc hX .v _ h1)) h2
  · cases h
def kLst (cl : Ck) : Ck := fun sc m e => match e with
  | .inl (.List es p) => cl sc .v (.inr es) && m.made (.own .fz) (.List es p)
  | _ => false
theorem s_lst {l : T} (hl : SndC N kk kn Γ ca (den l)) : SndC N kk kn Γ (kLst ca) (den (.lst l)) := by
  intro X B W sc hX m e h
  unfold kLst at h
  split at h
  · obtain ⟨h1, h2⟩ := and2 h
    exact EO.made (eo_lst (hl X B W sc hX .v _ h1)) h2
  · cases h
def notSl : Expr → Bool
  | .Slice _ _ _ _ => false
  | _ => true
theorem plainIx_ok {b : Expr} (h : notSl b = true) : PlainIx b := by
  intro o i
  cases b <;> first | rfl | cases h
def kSub (ca cb : Ck) : Ck := fun sc m e => match e with
  | .inl (.Subscript a b p) => notSl b && ca sc .b (.inl a) && cb sc .b (.inl b) && m.val (.Subscript a b p)
  | _ => false
theorem s_sub {a b : T} (ha : SndC N kk kn Γ ca (den a)) (hb : SndC N kk kn Γ cb (den b)) : SndC N kk kn Γ (kSub ca cb) (den (.sub a b)) := by
  intro X B W sc hX m e h
  unfold kSub at h
  split at h
  · obtain ⟨h, h4⟩ := and2 h
    obtain ⟨h, h3⟩ := and2 h
    obtain ⟨h1, h2⟩ := and2 h
    exact EV.val (ev_sub (by have := hX.un; omega) (plainIx_ok h1) (ha X B W sc hX .b _ h2) (hb X B W sc hX .b _ h3)) h4
  · cases h
end
end Hr

end
section
/-! HrL: the rest of the expressions, and the theorem of all of them -/
namespace Hr
open PySem PySem.Spec L2
theorem ans_str : tyAns "str" := fun K => ⟨kit_ty (by decide +kernel), kit_ty (by decide +kernel), kit_ty (by decide +kernel), kit_ty (by decide +kernel), kit_ty (by decide +kernel), kit_ty (by decide +kernel), kit_ty (by decide +kernel)⟩
theorem ans_int : tyAns "int" := fun K => ⟨kit_ty (by decide +kernel), kit_ty (by decide +kernel), kit_ty (by decide +kernel), kit_ty (by decide +kernel), kit_ty (by decide +kernel), kit_ty (by decide +kernel), kit_ty (by decide +kernel)⟩
theorem ans_bool : tyAns "bool" := fun K => ⟨kit_ty (by decide +kernel), kit_ty (by decide +kernel), kit_ty (by decide +kernel), kit_ty (by decide +kernel), kit_ty (by decide +kernel), kit_ty (by decide +kernel), kit_ty (by decide +kernel)⟩
theorem ans_tuple : tyAns "tuple" := fun K => ⟨kit_ty (by decide +kernel), kit_ty (by decide +kernel), kit_ty (by decide +kernel), kit_ty (by decide +kernel), kit_ty (by decide +kernel), kit_ty (by decide +kernel), kit_ty (by decide +kernel)⟩
theorem ans_list : tyAns "list" := fun K => ⟨kit_ty (by decide +kernel), kit_ty (by decide +kernel), kit_ty (by decide +kernel), kit_ty (by decide +kernel), kit_ty (by decide +kernel), kit_ty (by decide +kernel), kit_ty (by decide +kernel)⟩
theorem ans_dict : tyAns "dict" := fun K => ⟨kit_ty (by decide +kernel), kit_ty (by decide +kernel), kit_ty (by decide +kernel), kit_ty (by decide +kernel), kit_ty (by decide +kernel), kit_ty (by decide +kernel), kit_ty (by decide +kernel)⟩
def tyOk (T : String) : Bool := T == "str" || (T == "int" || (T == "bool" || (T == "tuple" || T == "list")))
theorem tyOk_ans {T : String} (h : tyOk T = true) : tyAns T := by
  unfold tyOk at h
  rcases Bool.or_eq_true_iff.mp h with h | h
  · rw [beq_iff_eq.mp h]; exact ans_str
  · rcases Bool.or_eq_true_iff.mp h with h | h
    · rw [beq_iff_eq.mp h]; exact ans_int
    · rcases Bool.or_eq_true_iff.mp h with h | h
      · rw [beq_iff_eq.mp h]; exact ans_bool
      · rcases Bool.or_eq_true_iff.mp h with h | h
        · rw [beq_iff_eq.mp h]; exact ans_tuple
        · rw [beq_iff_eq.mp h]; exact ans_list
theorem bl_len : ("len" : Str) ∈ BL := by decide +kernel
theorem bl_tuple : ("tuple" : Str) ∈ BL := by decide +kernel
theorem bl_list : ("list" : Str) ∈ BL := by decide +kernel
theorem bl_all : ("all" : Str) ∈ BL := by decide +kernel
theorem bl_any : ("any" : Str) ∈ BL := by decide +kernel
theorem bl_max : ("max" : Str) ∈ BL := by decide +kernel
theorem bl_sum : ("sum" : Str) ∈ BL := by decide +kernel
theorem bl_int : ("int" : Str) ∈ BL := by decide +kernel
theorem bl_isinstance : ("isinstance" : Str) ∈ BL := by decide +kernel
theorem bl_range : ("range" : Str) ∈ BL := by decide +kernel
theorem bl_enumerate : ("enumerate" : Str) ∈ BL := by decide +kernel
theorem bl_zip : ("zip" : Str) ∈ BL := by decide +kernel
theorem bl_str : ("str" : Str) ∈ BL := by decide +kernel
theorem bl_bool : ("bool" : Str) ∈ BL := by decide +kernel
theorem bl_sorted : ("sorted" : Str) ∈ BL := by decide +kernel
theorem bl_set : ("set" : Str) ∈ BL := by decide +kernel
section
variable {N : List Str} {kk : Nat} {kn : Kn} {Γ : Ow} {ca cb cc ci cf ce : Ck} {da db dc : Den}
/-- a part of a slice -/
def kPart (no : Bool) (c : Ck) (sc : Scope) : Option Expr → Bool
  | none => no
  | some e => !no && c sc .v (.inl e)
def kSli (nl nh : Bool) (ca cl ch : Ck) : Ck := fun sc m e => match e with
  | .inl (.Subscript a (.Slice lo hi none q) p) => ca sc .b (.inl a) && kPart nl cl sc lo && kPart nh ch sc hi && m.val (.Subscript a (.Slice lo hi none q) p)
  | _ => false
def T.isNo : T → Bool
  | .no => true
  | _ => false
theorem den_p {t : T} (h : t.isNo = false) (X : Cx) (B : Base) (W : WX) (e : Expr) (hv : EV X B W Γ e (den t).v) (hp : (den t).p = ePart (some (den t).v)) : EP' X B W Γ (some e) (den t).p := by
  rw [hp]; exact ep_some hv
/-- terms whose part is their value -/
def T.pOk : T → Bool
  | .var _ => true | .con _ => true | .glo _ _ => true | .neg _ => true | .bin _ _ _ => true | .sub _ _ => true | .bi _ _ => true | .call _ _ _ _ _ _ => true | _ => false
theorem pOk_eq {t : T} (h : t.pOk = true) : (den t).p = ePart (some (den t).v) := by
  cases t <;> first | rfl | cases h
theorem s_sli {a lo hi : T} (hlo : (lo.isNo || lo.pOk) = true) (hhi : (hi.isNo || hi.pOk) = true) (ha : SndC N kk kn Γ ca (den a)) (hl : SndC N kk kn Γ cb (den lo)) (hh : SndC N kk kn Γ cc (den hi)) : SndC N kk kn Γ (kSli lo.isNo hi.isNo ca cb cc) (den (.sli a lo hi)) := by
  intro X B W sc hX m e h
  unfold kSli at h
  split at h
  · obtain ⟨h, h4⟩ := and2 h
    obtain ⟨h, h3⟩ := and2 h
    obtain ⟨h1, h2⟩ := and2 h
    have part : ∀ {t : T} {c : Ck} {eo : Option Expr}, (t.isNo || t.pOk) = true → SndC N kk kn Γ c (den t) → kPart t.isNo c sc eo = true → EP' X B W Γ eo (den t).p := by
      intro t c eo ht hc hk
      cases eo with
      | none =>
        cases t with
        | no => exact ep_none
        | _ => cases hk
      | some e =>
        obtain ⟨k1, k2⟩ := and2 (show (!t.isNo && c sc .v (.inl e)) = true from hk)
        have hn : t.isNo = false := by simpa using k1
        rw [hn, Bool.false_or] at ht
        rw [pOk_eq ht]
        exact ep_some (hc X B W sc hX .v _ k2)
    exact EV.val (ev_sl (ha X B W sc hX .b _ h1) (part hlo hl h2) (part hhi hh h3)) h4
  · cases h
def kCall (x : Str) (t : OT) (cl : Ck) : Ck := fun sc m e => match e with
  | .inl (.Call (.Name y p) (a :: es) [] q) => decide (x = y) && glB sc x && (a :: es).all noStar && cl sc .v (.inr (a :: es)) && m.made t (.Call (.Name y p) (a :: es) [] q)
  | _ => false
theorem s_call {x : Str} {n : Nat} {t : OT} {k : Nat} {φ : List D → R D} {l : T} (hf : kn.FK x n t k φ) (hl : SndC N kk kn Γ ca (den l)) : SndC N kk kn Γ (kCall x t ca) (den (.call x n t k φ l)) := by
  intro X B W sc hX m e h
  unfold kCall at h
  split at h
  · obtain ⟨h, h5⟩ := and2 h
    obtain ⟨h, h4⟩ := and2 h
    obtain ⟨h, h3⟩ := and2 h
    obtain ⟨h1, h2⟩ := and2 h
    have e1 := of_decide_eq_true h1
    subst e1
    obtain ⟨g, db⟩ := glB_ok (X := X) (x := x) (by rw [hX.hS]; exact h2)
    obtain ⟨hk, F⟩ := hX.fk _ _ _ _ _ hf
    exact EO.made (eo_call F (hX.room.mono hk) g hX.tk db h3 (hl X B W sc hX .v _ h4)) h5
  · cases h
def kBi (b : BI) (cl : Ck) : Ck := fun sc m e => match e with
  | .inl (.Call (.Name y p) (a :: es) [] q) => decide (biName b = y) && glB sc (biName b) && (a :: es).all noStar && cl sc .b (.inr (a :: es)) && m.made (biT b) (.Call (.Name y p) (a :: es) [] q)
  | _ => false
theorem s_bi {b : BI} {l : T} (hl : SndC N kk kn Γ ca (den l)) : SndC N kk kn Γ (kBi b ca) (den (.bi b l)) := by
  intro X B W sc hX m e h
  unfold kBi at h
  split at h
  · obtain ⟨h, h5⟩ := and2 h
    obtain ⟨h, h4⟩ := and2 h
    obtain ⟨h, h3⟩ := and2 h
    obtain ⟨h1, h2⟩ := and2 h
    have e1 := of_decide_eq_true h1
    subst e1
    obtain ⟨g, db⟩ := glB_ok (X := X) (x := biName b) (by rw [hX.hS]; exact h2)
    have hl := hl X B W sc hX .b _ h4
    refine EO.made ?_ h5
    cases b with
    | len => exact eo_app call_len cd_len (on1_noexc dLen_noexc) g (hX.blt _ bl_len) boot_len (by decide) db h3 hl
    | tuple => exact eo_ty call_tupleP cd_tuple (on1_noexc dTuple_noexc) g (hX.blt _ bl_tuple) (by decide +kernel) (by decide) db h3 hl
    | list => exact eo_ty call_list_of cd_list (on1_noexc dList_noexc) g (hX.blt _ bl_list) (by decide +kernel) (by decide) db h3 hl
    | listd => exact eo_ty (call_list_dT hX.calm) cd_listd (on1_noexc dListD_noexc) g (hX.blt _ bl_list) (by decide +kernel) (by decide) db h3 hl
    | all => exact eo_app (cr_all hX.calm) cd_all (on1_noexc dAll_noexc) g (hX.blt _ bl_all) (by decide +kernel) (by decide) db h3 hl
    | any => exact eo_app (cr_any hX.calm) cd_any (on1_noexc dAny_noexc) g (hX.blt _ bl_any) (by decide +kernel) (by decide) db h3 hl
    | max => exact eo_app (cr_max hX.calm) cd_max (on1_noexc dMax_noexc) g (hX.blt _ bl_max) (by decide +kernel) (by decide) db h3 hl
    | sum => exact eo_app (cr_sum hX.calm) cd_sum (on1_noexc dSum_noexc) g (hX.blt _ bl_sum) (by decide +kernel) (by decide) db h3 hl
    | sortd => exact eo_app (call_sortedT hX.calm (by have := hX.un; omega)) cd_sortd (on1_noexc dSortD_noexc) g (hX.blt _ bl_sorted) (by decide +kernel) (by decide) db h3 hl
    | sorted => exact eo_app (cr_sortedD (by have := hX.un; omega)) cd_sort (on1_noexc dSort_noexc) g (hX.blt _ bl_sorted) (by decide +kernel) (by decide) db h3 hl
    | str => exact eo_ty call_str_int cd_str (on1_noexc dStr_noexc) g (hX.blt _ bl_str) (by decide +kernel) (by decide) db h3 hl
    | int => exact eo_ty call_int1 cd_int (on1_noexc dInt_noexc) g (hX.blt _ bl_int) (by decide +kernel) (by decide) db h3 hl
  · cases h
/-- the built-in class by its name -/
def tyName : String → Str
  | "str" => "str" | "int" => "int" | "bool" => "bool" | "tuple" => "tuple" | "list" => "list" | _ => ""
def kIsi (T : String) (ca : Ck) : Ck := fun sc m e => match e with
  | .inl (.Call (.Name y p) [a, .Name z p2] [] q) => decide (("isinstance" : Str) = y) && glB sc "isinstance" && noStar a && tyOk T && decide (tyName T = z) && glB sc (tyName T) && ca sc .b (.inl a) && m.val (.Call (.Name y p) [a, .Name z p2] [] q)
  | _ => false
theorem s_isi {ty : String} {a : T} (ha : SndC N kk kn Γ ca (den a)) : SndC N kk kn Γ (kIsi ty ca) (den (.isi ty a)) := by
  intro X B W sc hX m e h
  unfold kIsi at h
  split at h
  · obtain ⟨h, h8⟩ := and2 h
    obtain ⟨h, h7⟩ := and2 h
    obtain ⟨h, h6⟩ := and2 h
    obtain ⟨h, h5⟩ := and2 h
    obtain ⟨h, h4⟩ := and2 h
    obtain ⟨h, h3⟩ := and2 h
    obtain ⟨h1, h2⟩ := and2 h
    have e1 := of_decide_eq_true h1
    have e2 := of_decide_eq_true h5
    subst e1 e2
    obtain ⟨g, db⟩ := glB_ok (X := X) (x := "isinstance") (by rw [hX.hS]; exact h2)
    obtain ⟨g2, db2⟩ := glB_ok (X := X) (x := tyName ty) (by rw [hX.hS]; exact h6)
    refine EV.val (ev_isi (tyOk_ans h4) g (hX.blt _ bl_isinstance) h3 ?_ rfl (ha X B W sc hX .b _ h7)) h8
    unfold tyOk at h4
    rcases Bool.or_eq_true_iff.mp h4 with h | h
    · have := beq_iff_eq.mp h; subst this; exact pe_bltn g2 (hX.blt _ bl_str) (by decide +kernel) rfl (by decide) db2
    · rcases Bool.or_eq_true_iff.mp h with h | h
      · have := beq_iff_eq.mp h; subst this; exact pe_bltn g2 (hX.blt _ bl_int) (by decide +kernel) rfl (by decide) db2
      · rcases Bool.or_eq_true_iff.mp h with h | h
        · have := beq_iff_eq.mp h; subst this; exact pe_bltn g2 (hX.blt _ bl_bool) (by decide +kernel) rfl (by decide) db2
        · rcases Bool.or_eq_true_iff.mp h with h | h
          · have := beq_iff_eq.mp h; subst this; exact pe_bltn g2 (hX.blt _ bl_tuple) (by decide +kernel) rfl (by decide) db2
          · have := beq_iff_eq.mp h; subst this; exact pe_bltn g2 (hX.blt _ bl_list) (by decide +kernel) rfl (by decide) db2
  · cases h
def kIdx (ca cb : Ck) : Ck := fun sc m e => match e with
  | .inl (.Call (.Attribute a y ap) [b] [] q) => decide (("index" : Str) = y) && notSuper a && (ap.endLine == q.line) && noStar b && ca sc .b (.inl a) && cb sc .b (.inl b) && m.val (.Call (.Attribute a y ap) [b] [] q)
  | _ => false
theorem s_idx {a b : T} (ha : SndC N kk kn Γ ca (den a)) (hb : SndC N kk kn Γ cb (den b)) : SndC N kk kn Γ (kIdx ca cb) (den (.idx a b)) := by
  intro X B W sc hX m e h
  unfold kIdx at h
  split at h
  · obtain ⟨h, h7⟩ := and2 h
    obtain ⟨h, h6⟩ := and2 h
    obtain ⟨h, h5⟩ := and2 h
    obtain ⟨h, h4⟩ := and2 h
    obtain ⟨h, h3⟩ := and2 h
    obtain ⟨h1, h2⟩ := and2 h
    have e1 := of_decide_eq_true h1
    subst e1
    exact EV.val (ev_index hX.un h2 h3 h4 (ha X B W sc hX .b _ h5) (hb X B W sc hX .b _ h6)) h7
  · cases h
/-! ### what is walked -/
def kItI (ca : Ck) : Ck := fun sc m e => match e with
  | .inl a => (match m with
    | .i _ => ca sc .b (.inl a)
    | .f _ => ca sc .v (.inl a)
    | _ => false)
  | _ => false
theorem s_itI {a : T} (ha : SndC N kk kn Γ ca (den a)) : SndC N kk kn Γ (kItI ca) (den (.itI a)) := by
  intro X B W sc hX m e h
  unfold kItI at h
  split at h
  · cases m with
    | i tg => exact ei_items (ha X B W sc hX .b _ h)
    | f tg => exact eif_items (ha X B W sc hX .v _ h)
    | _ => cases h
  · cases h
def kItR1 (cl : Ck) : Ck := fun sc m e => match e with
  | .inl (.Call (.Name y p) [a] [] q) => decide (("range" : Str) = y) && glB sc "range" && noStar a && cl sc .v (.inr [a]) && (match m with | .i _ => true | .f _ => true | _ => false)
  | _ => false
theorem s_itR1 {l : T} (hl : SndC N kk kn Γ ca (den l)) : SndC N kk kn Γ (kItR1 ca) (den (.itR1 l)) := by
  intro X B W sc hX m e h
  unfold kItR1 at h
  split at h
  · obtain ⟨h, h5⟩ := and2 h
    obtain ⟨h, h4⟩ := and2 h
    obtain ⟨h, h3⟩ := and2 h
    obtain ⟨h1, h2⟩ := and2 h
    have e1 := of_decide_eq_true h1
    subst e1
    obtain ⟨g, db⟩ := glB_ok (X := X) (x := "range") (by rw [hX.hS]; exact h2)
    cases m with
    | i tg => exact EIf.bo (eif_rng1 h3 g (hX.blt _ bl_range) (hl X B W sc hX .v _ h4))
    | f tg => exact eif_rng1 h3 g (hX.blt _ bl_range) (hl X B W sc hX .v _ h4)
    | _ => cases h5
  · cases h
def kItR2 (cl : Ck) : Ck := fun sc m e => match e with
  | .inl (.Call (.Name y p) [a, b] [] q) => decide (("range" : Str) = y) && glB sc "range" && noStar a && noStar b && cl sc .v (.inr [a, b]) && (match m with | .i _ => true | .f _ => true | _ => false)
  | _ => false
theorem s_itR2 {l : T} (hl : SndC N kk kn Γ ca (den l)) : SndC N kk kn Γ (kItR2 ca) (den (.itR2 l)) := by
  intro X B W sc hX m e h
  unfold kItR2 at h
  split at h
  · obtain ⟨h, h6⟩ := and2 h
    obtain ⟨h, h5⟩ := and2 h
    obtain ⟨h, h4⟩ := and2 h
    obtain ⟨h, h3⟩ := and2 h
    obtain ⟨h1, h2⟩ := and2 h
    have e1 := of_decide_eq_true h1
    subst e1
    obtain ⟨g, db⟩ := glB_ok (X := X) (x := "range") (by rw [hX.hS]; exact h2)
    cases m with
    | i tg => exact EIf.bo (eif_rng2 h3 h4 g (hX.blt _ bl_range) (hl X B W sc hX .v _ h5))
    | f tg => exact eif_rng2 h3 h4 g (hX.blt _ bl_range) (hl X B W sc hX .v _ h5)
    | _ => cases h6
  · cases h
def kItE (cl : Ck) : Ck := fun sc m e => match e with
  | .inl (.Call (.Name y p) [a] [] q) => decide (("enumerate" : Str) = y) && glB sc "enumerate" && noStar a && (match m with
      | .i (.Tuple _ _ _) => cl sc .b (.inr [a])
      | .f (.Tuple _ _ _) => cl sc .v (.inr [a])
      | _ => false)
  | _ => false
theorem s_itE {l : T} (hl : SndC N kk kn Γ ca (den l)) : SndC N kk kn Γ (kItE ca) (den (.itE l)) := by
  intro X B W sc hX m e h
  unfold kItE at h
  split at h
  · obtain ⟨h, h4⟩ := and2 h
    obtain ⟨h, h3⟩ := and2 h
    obtain ⟨h1, h2⟩ := and2 h
    have e1 := of_decide_eq_true h1
    subst e1
    obtain ⟨g, db⟩ := glB_ok (X := X) (x := "enumerate") (by rw [hX.hS]; exact h2)
    split at h4
    · exact ei_enum h3 g (hX.blt _ bl_enumerate) (hl X B W sc hX .b _ h4)
    · exact eif_enum h3 g (hX.blt _ bl_enumerate) (hl X B W sc hX .v _ h4)
    · cases h4
  · cases h
def kItZ (cl : Ck) : Ck := fun sc m e => match e with
  | .inl (.Call (.Name y p) [a, b] [] q) => decide (("zip" : Str) = y) && glB sc "zip" && noStar a && noStar b && (match m with
      | .i (.Tuple _ _ _) => cl sc .b (.inr [a, b])
      | .f (.Tuple _ _ _) => cl sc .v (.inr [a, b])
      | _ => false)
  | _ => false
theorem s_itZ {l : T} (hl : SndC N kk kn Γ ca (den l)) : SndC N kk kn Γ (kItZ ca) (den (.itZ l)) := by
  intro X B W sc hX m e h
  unfold kItZ at h
  split at h
  · obtain ⟨h, h5⟩ := and2 h
    obtain ⟨h, h4⟩ := and2 h
    obtain ⟨h, h3⟩ := and2 h
    obtain ⟨h1, h2⟩ := and2 h
    have e1 := of_decide_eq_true h1
    subst e1
    obtain ⟨g, db⟩ := glB_ok (X := X) (x := "zip") (by rw [hX.hS]; exact h2)
    split at h5
    · exact ei_zip h3 h4 g (hX.blt _ bl_zip) (hl X B W sc hX .b _ h5)
    · exact eif_zip h3 h4 g (hX.blt _ bl_zip) (hl X B W sc hX .v _ h5)
    · cases h5
  · cases h
def kItEZ (cl : Ck) : Ck := fun sc m e => match e with
  | .inl (.Call (.Name x p) [.Call (.Name y p2) [a, b] [] q2] [] q) => decide (("enumerate" : Str) = x) && glB sc "enumerate" && decide (("zip" : Str) = y) && glB sc "zip" && noStar a && noStar b && (match m with
      | .i (.Tuple _ _ _) => cl sc .b (.inr [a, b])
      | .f (.Tuple _ _ _) => cl sc .v (.inr [a, b])
      | _ => false)
  | _ => false
theorem s_itEZ {l : T} (hl : SndC N kk kn Γ ca (den l)) : SndC N kk kn Γ (kItEZ ca) (den (.itEZ l)) := by
  intro X B W sc hX m e h
  unfold kItEZ at h
  split at h
  · obtain ⟨h, h5⟩ := and2 h
    obtain ⟨h, h4⟩ := and2 h
    obtain ⟨h, h3⟩ := and2 h
    obtain ⟨h, h2⟩ := and2 h
    obtain ⟨h, h1⟩ := and2 h
    obtain ⟨h0, h6⟩ := and2 h
    have e1 := of_decide_eq_true h1
    have e0 := of_decide_eq_true h0
    subst e1 e0
    obtain ⟨g, db⟩ := glB_ok (X := X) (x := "zip") (by rw [hX.hS]; exact h2)
    obtain ⟨g2, db2⟩ := glB_ok (X := X) (x := "enumerate") (by rw [hX.hS]; exact h6)
    split at h5
    · exact ei_enumZ h3 h4 g (hX.blt _ bl_zip) g2 (hX.blt _ bl_enumerate) (hl X B W sc hX .b _ h5)
    · exact eif_enumZ h3 h4 g (hX.blt _ bl_zip) g2 (hX.blt _ bl_enumerate) (hl X B W sc hX .v _ h5)
    · cases h5
  · cases h
/-! ### targets -/
abbrev Cg := Scope → Sum Expr (List Expr) → Bool
def kNm (N : List Str) (Γ : Ow) (vs : List Nat) (any : Bool) (i : Nat) : Cg := fun sc e => match e with
  | .inl (.Name x _) => decide (N[i]? = some x) && (if any = true then locB sc x else lclB sc x) && decide (oty Γ i = .fz) && decide (i ∈ vs)
  | _ => false
def chkG (N : List Str) (Γ : Ow) (vs : List Nat) (any : Bool) : TG → Cg
  | .nm i => kNm N Γ vs any i
  | .tp l => fun sc e => match e with
    | .inl (.Tuple es _ _) => es.all noStar && decide (l.len = es.length) && chkG N Γ vs any l sc (.inr es)
    | _ => false
  | .nil => fun _ e => match e with
    | .inr [] => true
    | _ => false
  | .cons a l => fun sc e => match e with
    | .inr (x :: es) => noStar x && chkG N Γ vs any a sc (.inl x) && chkG N Γ vs any l sc (.inr es)
    | _ => false
def SndG (X : Cx) (B : Base) (Γ : Ow) (vs : List Nat) (d : TGd) : Sum Expr (List Expr) → Prop
  | .inl e => EG X B Γ vs e d.f
  | .inr es => EGs X B Γ vs es d.l
theorem tgd_len : ∀ (l : TG) (ds : List D) (s s' : En), (tgd l).l ds s = some s' → ds.length = l.len
  | .nm _, _, _, _, h => by cases h
  | .tp _, _, _, _, h => by cases h
  | .nil, ds, _, _, h => ftNil_len h
  | .cons a l, ds, s, s', h => ftCons_len (fun ds s s' => tgd_len l ds s s') ds s s' h
theorem chkG_ok {vs : List Nat} {any : Bool} {X : Cx} {B : Base} {sc : Scope} (hN : X.N = N) (hS : X.env.scope = sc) (hc : X.calm = true) (nd : N.Nodup) (hf : any = true → ∀ x, X.fn x = true) : ∀ (t : TG) (e : Sum Expr (List Expr)), chkG N Γ vs any t sc e = true → SndG X B Γ vs (tgd t) e
  | .nm i, e, h => by
    have h : kNm N Γ vs any i sc e = true := h
    unfold kNm at h
    split at h
    · rename_i x p
      obtain ⟨h, h4⟩ := and2 h
      obtain ⟨h, h3⟩ := and2 h
      obtain ⟨h1, h2⟩ := and2 h
      have hfa : any = true → ∀ y, X.fn y = true := hf
      cases any with
      | true =>
        rw [if_pos rfl] at h2
        exact eg_name (by rw [hN]; exact nd) (by rw [hN]; exact of_decide_eq_true h1) (by rw [hS]; exact locB_ok h2) (.inl (hfa rfl _)) (of_decide_eq_true h3) (of_decide_eq_true h4)
      | false =>
        rw [if_neg Bool.false_ne_true] at h2
        exact eg_name (by rw [hN]; exact nd) (by rw [hN]; exact of_decide_eq_true h1) (by rw [hS]; exact .inl (lclB_ok h2)) (.inr (by rw [hS]; exact lclB_ok h2)) (of_decide_eq_true h3) (of_decide_eq_true h4)
    · cases h
  | .tp l, e, h => by
    unfold chkG at h
    split at h
    · obtain ⟨h, h3⟩ := and2 h
      obtain ⟨h1, h2⟩ := and2 h
      have hl : l.len = _ := of_decide_eq_true h2
      exact eg_tup hc h1 (fun ds s s' q => by rw [← hl]; exact tgd_len l ds s s' q) (chkG_ok hN hS hc nd hf l _ h3)
    · cases h
  | .nil, e, h => by
    unfold chkG at h
    split at h
    · exact egs_nil
    · cases h
  | .cons a l, e, h => by
    unfold chkG at h
    split at h
    · obtain ⟨h, h3⟩ := and2 h
      obtain ⟨h1, h2⟩ := and2 h
      exact egs_cons h1 (chkG_ok hN hS hc nd hf a _ h2) (chkG_ok hN hS hc nd hf l _ h3)
    · cases h
def kIse (c : Str) (ca : Ck) : Ck := fun sc m e => match e with
  | .inl (.Call (.Name y p) [a, .Name z p2] [] q) => decide (("isinstance" : Str) = y) && glB sc "isinstance" && noStar a && decide (c = z) && glB sc c && ca sc .b (.inl a) && m.val (.Call (.Name y p) [a, .Name z p2] [] q)
  | _ => false
theorem s_ise {c : Str} {tb : List (Str × Bool)} {a : T} (hi : kn.IK c tb) (ha : SndC N kk kn Γ ca (den a)) : SndC N kk kn Γ (kIse c ca) (den (.ise c tb a)) := by
  intro X B W sc hX m e h
  unfold kIse at h
  split at h
  · obtain ⟨h, h7⟩ := and2 h
    obtain ⟨h, h6⟩ := and2 h
    obtain ⟨h, h5⟩ := and2 h
    obtain ⟨h, h4⟩ := and2 h
    obtain ⟨h, h3⟩ := and2 h
    obtain ⟨h1, h2⟩ := and2 h
    have e1 := of_decide_eq_true h1
    have e2 := of_decide_eq_true h4
    subst e1 e2
    obtain ⟨g, db⟩ := glB_ok (X := X) (x := "isinstance") (by rw [hX.hS]; exact h2)
    obtain ⟨g2, db2⟩ := glB_ok (X := X) (x := c) (by rw [hX.hS]; exact h5)
    obtain ⟨v, cv, hm, rv, hcv, ht⟩ := hX.ik c tb hi
    refine EV.val (ev_ise g (hX.blt _ bl_isinstance) h3 ?_ hcv rfl ht (ha X B W sc hX .b _ h6)) h7
    rcases hm with hm | ⟨hm, hb, hn⟩
    · exact pe_glob g2 hm rv db2
    · exact pe_bltn g2 hm hb rv hn db2
  · cases h
def kCnt (ca cb : Ck) : Ck := fun sc m e => match e with
  | .inl (.Call (.Attribute a y ap) [b] [] cp) => decide (("count" : Str) = y) && notSuper a && (ap.endLine == cp.line) && noStar b && ca sc .b (.inl a) && cb sc .b (.inl b) && m.val (.Call (.Attribute a y ap) [b] [] cp)
  | _ => false
theorem s_cnt {a b : T} (ha : SndC N kk kn Γ ca (den a)) (hb : SndC N kk kn Γ cb (den b)) : SndC N kk kn Γ (kCnt ca cb) (den (.cnt a b)) := by
  intro X B W sc hX m e h
  unfold kCnt at h
  split at h
  · obtain ⟨h, h7⟩ := and2 h
    obtain ⟨h, h6⟩ := and2 h
    obtain ⟨h, h5⟩ := and2 h
    obtain ⟨h, h4⟩ := and2 h
    obtain ⟨h, h3⟩ := and2 h
    obtain ⟨h1, h2⟩ := and2 h
    have e1 := of_decide_eq_true h1
    subst e1
    exact EV.val (ev_count (by have := hX.un; omega) h2 h3 h4 (ha X B W sc hX .b _ h5) (hb X B W sc hX .b _ h6)) h7
  · cases h
def kJoin (ca cb : Ck) : Ck := fun sc m e => match e with
  | .inl (.Call (.Attribute a y ap) [b] [] cp) => decide (("join" : Str) = y) && notSuper a && (ap.endLine == cp.line) && noStar b && ca sc .b (.inl a) && cb sc .b (.inl b) && m.val (.Call (.Attribute a y ap) [b] [] cp)
  | _ => false
theorem s_join {a b : T} (ha : SndC N kk kn Γ ca (den a)) (hb : SndC N kk kn Γ cb (den b)) : SndC N kk kn Γ (kJoin ca cb) (den (.join a b)) := by
  intro X B W sc hX m e h
  unfold kJoin at h
  split at h
  · obtain ⟨h, h7⟩ := and2 h
    obtain ⟨h, h6⟩ := and2 h
    obtain ⟨h, h5⟩ := and2 h
    obtain ⟨h, h4⟩ := and2 h
    obtain ⟨h, h3⟩ := and2 h
    obtain ⟨h1, h2⟩ := and2 h
    have e1 := of_decide_eq_true h1
    subst e1
    exact EV.val (ev_join h2 h3 h4 (ha X B W sc hX .b _ h5) (hb X B W sc hX .b _ h6)) h7
  · cases h
def kLset (ca : Ck) : Ck := fun sc m e => match e with
  | .inl (.Call (.Name y p) [.Call (.Name z p2) [a] [] q] [] pos) => decide (("len" : Str) = y) && decide (("set" : Str) = z) && glB sc "len" && glB sc "set" && noStar a && ca sc .b (.inl a) && m.val (.Call (.Name y p) [.Call (.Name z p2) [a] [] q] [] pos)
  | _ => false
theorem s_lset {a : T} (ha : SndC N kk kn Γ ca (den a)) : SndC N kk kn Γ (kLset ca) (den (.lset a)) := by
  intro X B W sc hX m e h
  unfold kLset at h
  split at h
  · obtain ⟨h, h7⟩ := and2 h
    obtain ⟨h, h6⟩ := and2 h
    obtain ⟨h, h5⟩ := and2 h
    obtain ⟨h, h4⟩ := and2 h
    obtain ⟨h, h3⟩ := and2 h
    obtain ⟨h1, h2⟩ := and2 h
    have e1 := of_decide_eq_true h1
    have e2 := of_decide_eq_true h2
    subst e1 e2
    obtain ⟨g, _⟩ := glB_ok (X := X) (x := "len") (by rw [hX.hS]; exact h3)
    obtain ⟨g2, _⟩ := glB_ok (X := X) (x := "set") (by rw [hX.hS]; exact h4)
    exact EV.val (ev_lenSet (by have := hX.un; omega) hX.calm g (hX.blt _ bl_len) g2 (hX.blt _ bl_set) h5 (ha X B W sc hX .b _ h6)) h7
  · cases h
def kItS (ca : Ck) : Ck := fun sc m e => match e with
  | .inl a => (match m with
    | .i _ => ca sc .b (.inl a)
    | .f _ => ca sc .b (.inl a)
    | _ => false)
  | _ => false
theorem s_itS {a : T} (ha : SndC N kk kn Γ ca (den a)) : SndC N kk kn Γ (kItS ca) (den (.itS a)) := by
  intro X B W sc hX m e h
  unfold kItS at h
  split at h
  · cases m with
    | i tg => exact EIf.bo (eif_str (ha X B W sc hX .b _ h))
    | f tg => exact eif_str (ha X B W sc hX .b _ h)
    | _ => cases h
  · cases h
/-! ### comprehensions -/
def kIfs (no : Bool) (c : Ck) (sc : Scope) : List Expr → Bool
  | [] => no
  | [e] => !no && c sc .t (.inl e)
  | _ => false
theorem rel_scope {X : Cx} {sc scope : Scope} (h : X.env.scope = sc) (cl : List (Str × Addr)) (C : Addr) : (compEnvC scope cl C X.env).scope = relS scope sc := by
  subst h; rfl
theorem Cok.blk {X : Cx} {sc : Scope} {W : WX} (hX : Cok N kk kn X sc W) (s : Shared) (H : Hp) (scope : Scope) (cl : List (Str × Addr)) (C : Addr) (fp : List Addr) : Cok N kk kn (X.blk s H scope (compEnvC scope cl C X.env) fp) (relS scope sc) W0 :=
  ⟨hX.hN, rel_scope hX.hS cl C, hX.calm, hX.nd, hX.room, takes0, hX.blt, hX.fk, hX.gk, hX.ik⟩
def lcCore (N : List Str) (Γ : Ow) (own : List (Str × Nat)) (tg : TG) (no : Bool) (ce ci cf : Ck) (sc : Scope) : Expr → Bool
  | .ListComp elt [⟨t, it, ifs, as⟩] scope p => decide (as = 0) && notSet it && blkC N sc scope own && chkG N Γ (own.map (·.2)) false tg (relS scope sc) (.inl t) && ci sc (.i t) (.inl it) && kIfs no cf (relS scope sc) ifs && ce (relS scope sc) .v (.inl elt)
  | _ => false
structure LcOk (X : Cx) (B : Base) (W : WX) (Γ : Ow) (own : List (Str × Nat)) (tg : TG) (it ifs elt : Den) (t iter e : Expr) (fs : List Expr) (scope : Scope) : Prop where
  st : notSet iter = true
  hi : EI X B W Γ t iter it.l
  ok : BlkOk X.N X.env.scope scope own
  hg : ∀ (s : Shared) (H : Hp) (C : Addr) (cl : List (Str × Addr)) (fp : List Addr), EG (X.blk s H scope (compEnvC scope cl C X.env) fp) B Γ (own.map (·.2)) t (tgd tg).f
  ht : ∀ (s : Shared) (H : Hp) (C : Addr) (cl : List (Str × Addr)) (fp : List Addr), ETs (X.blk s H scope (compEnvC scope cl C X.env) fp) B W0 Γ fs ifs.t
  he : ∀ (s : Shared) (H : Hp) (C : Addr) (cl : List (Str × Addr)) (fp : List Addr), EV (X.blk s H scope (compEnvC scope cl C X.env) fp) B W0 Γ e elt.v
theorem lcCore_ok {X : Cx} {B : Base} {W : WX} {sc : Scope} (hX : Cok N kk kn X sc W) {own : List (Str × Nat)} {tg : TG} {elt it ifs : T} {e : Expr} (he : SndC N kk kn Γ ce (den elt)) (hi : SndC N kk kn Γ ci (den it)) (hf : SndC N kk kn Γ cf (den ifs)) (h : lcCore N Γ own tg ifs.isNo ce ci cf sc e = true) :
    ∃ e0 t iter fs scope p, e = .ListComp e0 [⟨t, iter, fs, 0⟩] scope p ∧ LcOk X B W Γ own tg (den it) (den ifs) (den elt) t iter e0 fs scope := by
  unfold lcCore at h
  split at h
  · rename_i e0 t iter fs as scope p
    obtain ⟨h, h7⟩ := and2 h
    obtain ⟨h, h6⟩ := and2 h
    obtain ⟨h, h5⟩ := and2 h
    obtain ⟨h, h4⟩ := and2 h
    obtain ⟨h, h3⟩ := and2 h
    obtain ⟨h1, h2⟩ := and2 h
    have e1 := of_decide_eq_true h1
    subst e1
    refine ⟨e0, t, iter, fs, scope, p, rfl, h2, hi X B W sc hX (.i t) _ h5, ?_, fun s H C cl fp => ?_, fun s H C cl fp => ?_, fun s H C cl fp => ?_⟩
    · rw [hX.hN, hX.hS]
      exact blkOk_by h3
    · exact chkG_ok (any := false) (X := X.blk s H scope (compEnvC scope cl C X.env) fp) hX.hN (rel_scope hX.hS cl C) hX.calm hX.nd (fun z => by cases z) tg _ h4
    · cases fs with
      | nil =>
        have hn : ifs.isNo = true := h6
        cases ifs with
        | no => exact ets_nil
        | _ => cases hn
      | cons f fr =>
        cases fr with
        | cons _ _ => cases h6
        | nil =>
          obtain ⟨k1, k2⟩ := and2 (show (!ifs.isNo && cf (relS scope sc) .t (.inl f)) = true from h6)
          exact ets_one (hf _ B W0 _ (hX.blk s H scope cl C fp) .t _ k2)
    · exact he _ B W0 _ (hX.blk s H scope cl C fp) .v _ h7
  · cases h
def kLc (N : List Str) (Γ : Ow) (own : List (Str × Nat)) (tg : TG) (no : Bool) (ce ci cf : Ck) : Ck := fun sc m e => match e with
  | .inl e => lcCore N Γ own tg no ce ci cf sc e && m.made (.own .fz) e
  | _ => false
theorem s_lc {own : List (Str × Nat)} {tg : TG} {elt it ifs : T} (he : SndC N kk kn Γ ce (den elt)) (hi : SndC N kk kn Γ ci (den it)) (hf : SndC N kk kn Γ cf (den ifs)) : SndC N kk kn Γ (kLc N Γ own tg ifs.isNo ce ci cf) (den (.lc own elt tg it ifs)) := by
  intro X B W sc hX m e h
  unfold kLc at h
  split at h
  · obtain ⟨h1, h2⟩ := and2 h
    obtain ⟨e0, t, iter, fs, scope, p, rfl, L⟩ := lcCore_ok (B := B) hX he hi hf h1
    exact EO.made (eo_lc hX.calm (by rw [hX.hN]; exact hX.nd) rfl L.st L.hi L.ok L.hg L.ht L.he) h2
  · cases h
def kDnew : Ck := fun _ m e => match e with
  | .inl (.Dict [] [] p) => m.made (.own .fz) (.Dict [] [] p)
  | _ => false
theorem s_dnew {t : Bool} : SndC N kk kn Γ kDnew (den (.dnew t)) := by
  intro X B W sc hX m e h
  unfold kDnew at h
  split at h
  · exact EO.made (eo_dnew t) h
  · cases h
def kDnew2 : Ck := fun _ m e => match e with
  | .inl (.Dict [] [] p) => m.made (.own (.own .fz)) (.Dict [] [] p)
  | _ => false
theorem s_dnew2 : SndC N kk kn Γ kDnew2 (den .dnew2) := by
  intro X B W sc hX m e h
  unfold kDnew2 at h
  split at h
  · exact EO.made eo_dnew2 h
  · cases h
def kSub2 (N : List Str) (Γ : Ow) (i : Nat) (ck : Ck) : Ck := fun sc m e => match e with
  | .inl (.Subscript (.Name x p) ke q) => notSl ke && decide (N[i]? = some x) && visB sc x && decide (oty Γ i = .own (.own .fz)) && ck sc .v (.inl ke) && (match m with | .b => true | _ => false)
  | _ => false
theorem s_sub2 {i : Nat} {k : T} (hk : SndC N kk kn Γ ca (den k)) : SndC N kk kn Γ (kSub2 N Γ i ca) (den (.sub2 i k)) := by
  intro X B W sc hX m e h
  unfold kSub2 at h
  split at h
  · rename_i x p ke q
    obtain ⟨h, h6⟩ := and2 h
    obtain ⟨h, h5⟩ := and2 h
    obtain ⟨h, h4⟩ := and2 h
    obtain ⟨h, h3⟩ := and2 h
    obtain ⟨h1, h2⟩ := and2 h
    obtain ⟨hv, d1, d2⟩ := visB_ok (sc := X.env.scope) (x := x) (by rw [hX.hS]; exact h3)
    cases m with
    | b => exact eb_sub2 (by have := hX.un; omega) (of_decide_eq_true h4) (by rw [hX.hN]; exact of_decide_eq_true h2) hv d1 d2 (plainIx_ok h1) (hk X B W sc hX .v _ h5)
    | _ => cases h6
  · cases h
def kSset (ca : Ck) : Ck := fun sc m e => match e with
  | .inl (.Call (.Name y p) [.Call (.Name z p2) [a] [] q] [] pos) => decide (("sorted" : Str) = y) && decide (("set" : Str) = z) && glB sc "sorted" && glB sc "set" && noStar a && ca sc .b (.inl a) && m.made (.own .fz) (.Call (.Name y p) [.Call (.Name z p2) [a] [] q] [] pos)
  | _ => false
theorem s_sset {a : T} (ha : SndC N kk kn Γ ca (den a)) : SndC N kk kn Γ (kSset ca) (den (.sset a)) := by
  intro X B W sc hX m e h
  unfold kSset at h
  split at h
  · obtain ⟨h, h7⟩ := and2 h
    obtain ⟨h, h6⟩ := and2 h
    obtain ⟨h, h5⟩ := and2 h
    obtain ⟨h, h4⟩ := and2 h
    obtain ⟨h, h3⟩ := and2 h
    obtain ⟨h1, h2⟩ := and2 h
    have e1 := of_decide_eq_true h1
    have e2 := of_decide_eq_true h2
    subst e1 e2
    obtain ⟨g, _⟩ := glB_ok (X := X) (x := "sorted") (by rw [hX.hS]; exact h3)
    obtain ⟨g2, _⟩ := glB_ok (X := X) (x := "set") (by rw [hX.hS]; exact h4)
    exact EO.made (eo_sortSet (by have := hX.un; omega) hX.calm g (hX.blt _ bl_sorted) g2 (hX.blt _ bl_set) h5 (ha X B W sc hX .b _ h6)) h7
  · cases h
def kRevt (ca : Ck) : Ck := fun sc m e => match e with
  | .inl (.Subscript a (.Slice none none (some (.UnaryOp .USub (.Constant (.int i) k p1) p2)) p3) pos) => decide (i = 1) && ca sc .b (.inl a) && m.val (.Subscript a (.Slice none none (some (.UnaryOp .USub (.Constant (.int i) k p1) p2)) p3) pos)
  | _ => false
theorem s_revt {a : T} (ha : SndC N kk kn Γ ca (den a)) : SndC N kk kn Γ (kRevt ca) (den (.revt a)) := by
  intro X B W sc hX m e h
  unfold kRevt at h
  split at h
  · obtain ⟨h, h3⟩ := and2 h
    obtain ⟨h1, h2⟩ := and2 h
    have e1 := of_decide_eq_true h1
    subst e1
    exact EV.val (ev_revT (ha X B W sc hX .b _ h2)) h3
  · cases h
def kDict (ca : Ck) : Ck := fun sc m e => match e with
  | .inl (.Call (.Name y p) [a] [] pos) => decide (("dict" : Str) = y) && glB sc "dict" && noStar a && ca sc .b (.inl a) && m.val (.Call (.Name y p) [a] [] pos)
  | _ => false
theorem s_dict {a : T} (ha : SndC N kk kn Γ ca (den a)) : SndC N kk kn Γ (kDict ca) (den (.dict a)) := by
  intro X B W sc hX m e h
  unfold kDict at h
  split at h
  · obtain ⟨h, h5⟩ := and2 h
    obtain ⟨h, h4⟩ := and2 h
    obtain ⟨h, h3⟩ := and2 h
    obtain ⟨h1, h2⟩ := and2 h
    have e1 := of_decide_eq_true h1
    subst e1
    obtain ⟨g, _⟩ := glB_ok (X := X) (x := "dict") (by rw [hX.hS]; exact h2)
    exact EV.val (ev_dict hX.calm g (hX.blt _ (by decide +kernel)) h3 (ha X B W sc hX .b _ h4)) h5
  · cases h
def kGet2 (ca cb cc : Ck) : Ck := fun sc m e => match e with
  | .inl (.Call (.Attribute a y ap) [b, c] [] cp) => decide (("get" : Str) = y) && notSuper a && (ap.endLine == cp.line) && noStar b && noStar c && ca sc .v (.inl a) && cb sc .v (.inl b) && cc sc .v (.inl c) && m.val (.Call (.Attribute a y ap) [b, c] [] cp)
  | _ => false
theorem s_get2 {a b c : T} (ha : SndC N kk kn Γ ca (den a)) (hb : SndC N kk kn Γ cb (den b)) (hc : SndC N kk kn Γ cc (den c)) : SndC N kk kn Γ (kGet2 ca cb cc) (den (.get2 a b c)) := by
  intro X B W sc hX m e h
  unfold kGet2 at h
  split at h
  · obtain ⟨h, h9⟩ := and2 h
    obtain ⟨h, h8⟩ := and2 h
    obtain ⟨h, h7⟩ := and2 h
    obtain ⟨h, h6⟩ := and2 h
    obtain ⟨h, h5⟩ := and2 h
    obtain ⟨h, h4⟩ := and2 h
    obtain ⟨h, h3⟩ := and2 h
    obtain ⟨h1, h2⟩ := and2 h
    have e1 := of_decide_eq_true h1
    subst e1
    have hu : X.A.units + 1 < cLine := by have := hX.un; omega
    exact EV.val (ev_get2 hu h2 h3 h4 h5 (ha X B W sc hX .v _ h6) (hb X B W sc hX .v _ h7) (hc X B W sc hX .v _ h8)) h9
  · cases h
def kRevl (ca : Ck) : Ck := fun sc m e => match e with
  | .inl (.Subscript a (.Slice none none (some (.UnaryOp .USub (.Constant (.int i) k p1) p2)) p3) pos) => decide (i = 1) && ca sc .b (.inl a) && m.val (.Subscript a (.Slice none none (some (.UnaryOp .USub (.Constant (.int i) k p1) p2)) p3) pos)
  | _ => false
theorem s_revl {a : T} (ha : SndC N kk kn Γ ca (den a)) : SndC N kk kn Γ (kRevl ca) (den (.revl a)) := by
  intro X B W sc hX m e h
  unfold kRevl at h
  split at h
  · obtain ⟨h, h3⟩ := and2 h
    obtain ⟨h1, h2⟩ := and2 h
    have e1 := of_decide_eq_true h1
    subst e1
    exact EV.val (ev_revL (ha X B W sc hX .b _ h2)) h3
  · cases h
def kSpl (ca cb : Ck) : Ck := fun sc m e => match e with
  | .inl (.Call (.Attribute a y ap) [b] [] cp) => decide (("split" : Str) = y) && notSuper a && (ap.endLine == cp.line) && noStar b && ca sc .b (.inl a) && cb sc .b (.inl b) && m.val (.Call (.Attribute a y ap) [b] [] cp)
  | _ => false
theorem s_spl {a b : T} (ha : SndC N kk kn Γ ca (den a)) (hb : SndC N kk kn Γ cb (den b)) : SndC N kk kn Γ (kSpl ca cb) (den (.spl a b)) := by
  intro X B W sc hX m e h
  unfold kSpl at h
  split at h
  · obtain ⟨h, h7⟩ := and2 h
    obtain ⟨h, h6⟩ := and2 h
    obtain ⟨h, h5⟩ := and2 h
    obtain ⟨h, h4⟩ := and2 h
    obtain ⟨h, h3⟩ := and2 h
    obtain ⟨h1, h2⟩ := and2 h
    have e1 := of_decide_eq_true h1
    subst e1
    exact EV.val (ev_split h2 h3 h4 (ha X B W sc hX .b _ h5) (hb X B W sc hX .b _ h6)) h7
  · cases h
def kFst (c : Str) (ca cb : Ck) : Ck := fun sc m e => match e with
  | .inl (.JoinedStr [.FormattedValue a v1 none p1, .Constant (.str y) k p2, .FormattedValue b v2 none p3] pos) => decide (v1 = -1) && decide (v2 = -1) && decide (c = y) && ca sc .b (.inl a) && cb sc .b (.inl b) && m.val (.JoinedStr [.FormattedValue a v1 none p1, .Constant (.str y) k p2, .FormattedValue b v2 none p3] pos)
  | _ => false
theorem s_fst {c : Str} {a b : T} (ha : SndC N kk kn Γ ca (den a)) (hb : SndC N kk kn Γ cb (den b)) : SndC N kk kn Γ (kFst c ca cb) (den (.fst c a b)) := by
  intro X B W sc hX m e h
  unfold kFst at h
  split at h
  · obtain ⟨h, h6⟩ := and2 h
    obtain ⟨h, h5⟩ := and2 h
    obtain ⟨h, h4⟩ := and2 h
    obtain ⟨h, h3⟩ := and2 h
    obtain ⟨h1, h2⟩ := and2 h
    have e1 := of_decide_eq_true h1
    have e2 := of_decide_eq_true h2
    have e3 := of_decide_eq_true h3
    subst e1 e2 e3
    exact EV.val (ev_fst (ha X B W sc hX .b _ h4) (hb X B W sc hX .b _ h5)) h6
  · cases h
def kQrep (c y z : Str) (ca : Ck) : Ck := fun sc m e => match e with
  | .inl (.BinOp (.Constant (.str c') k0 p0) .Add (.Call (.Attribute a nm ap) [.Constant (.str y') j1 p1, .Constant (.str z') j2 p2] [] cp) pos) => decide (c = c') && decide (y = y') && decide (z = z') && decide (("replace" : Str) = nm) && notSuper a && (ap.endLine == cp.line) && ca sc .b (.inl a) && m.val (.BinOp (.Constant (.str c') k0 p0) .Add (.Call (.Attribute a nm ap) [.Constant (.str y') j1 p1, .Constant (.str z') j2 p2] [] cp) pos)
  | _ => false
theorem s_qrep {c y z : Str} {a : T} (ha : SndC N kk kn Γ ca (den a)) : SndC N kk kn Γ (kQrep c y z ca) (den (.qrep c y z a)) := by
  intro X B W sc hX m e h
  unfold kQrep at h
  split at h
  · obtain ⟨h, h8⟩ := and2 h
    obtain ⟨h, h7⟩ := and2 h
    obtain ⟨h, h6⟩ := and2 h
    obtain ⟨h, h5⟩ := and2 h
    obtain ⟨h, h4⟩ := and2 h
    obtain ⟨h, h3⟩ := and2 h
    obtain ⟨h1, h2⟩ := and2 h
    have e1 := of_decide_eq_true h1
    have e2 := of_decide_eq_true h2
    have e3 := of_decide_eq_true h3
    have e4 := of_decide_eq_true h4
    subst e1 e2 e3 e4
    exact EV.val (ev_qrep h5 h6 (ha X B W sc hX .b _ h7)) h8
  · cases h
def kNone : Ck := fun _ _ _ => false
theorem s_none {d : Den} : SndC N kk kn Γ kNone d := fun _ _ _ _ _ _ _ h => by cases h
end
/-- THE CHECK of a term against an expression -/
def chk (N : List Str) (Γ : Ow) : T → Ck
  | .var i => kVar N Γ i
  | .con d => kCon d
  | .glo x _ => kGlo x
  | .neg a => kNeg (chk N Γ a)
  | .bin op a b => kBin op (chk N Γ a) (chk N Γ b)
  | .cmp op a b => kCmp op (chk N Γ a) (chk N Γ b)
  | .chn o1 o2 a b c => kChn o1 o2 (chk N Γ a) (chk N Γ b) (chk N Γ c)
  | .and a b => kAnd (chk N Γ a) (chk N Γ b)
  | .or a b => kOr (chk N Γ a) (chk N Γ b)
  | .not a => kNot (chk N Γ a)
  | .one a => kOne (chk N Γ a)
  | .ife c a b => kIfe (chk N Γ c) (chk N Γ a) (chk N Γ b)
  | .nil => kNil
  | .cons a l => kCons (chk N Γ a) (chk N Γ l)
  | .no => kNone
  | .tup l => kTup (chk N Γ l)
  | .lst l => kLst (chk N Γ l)
  | .sub a b => kSub (chk N Γ a) (chk N Γ b)
  | .sli a lo hi => if ((lo.isNo || lo.pOk) && (hi.isNo || hi.pOk)) = true then kSli lo.isNo hi.isNo (chk N Γ a) (chk N Γ lo) (chk N Γ hi) else kNone
  | .call x _ t _ _ l => kCall x t (chk N Γ l)
  | .bi b l => kBi b (chk N Γ l)
  | .isi t a => kIsi t (chk N Γ a)
  | .idx a b => kIdx (chk N Γ a) (chk N Γ b)
  | .cnt a b => kCnt (chk N Γ a) (chk N Γ b)
  | .join a b => kJoin (chk N Γ a) (chk N Γ b)
  | .ise c _ a => kIse c (chk N Γ a)
  | .lc own elt tg it ifs => kLc N Γ own tg ifs.isNo (chk N Γ elt) (chk N Γ it) (chk N Γ ifs)
  | .lset a => kLset (chk N Γ a)
  | .itS a => kItS (chk N Γ a)
  | .itI a => kItI (chk N Γ a)
  | .itR1 l => kItR1 (chk N Γ l)
  | .itR2 l => kItR2 (chk N Γ l)
  | .itE l => kItE (chk N Γ l)
  | .itZ l => kItZ (chk N Γ l)
  | .itEZ l => kItEZ (chk N Γ l)
  | .dnew _ => kDnew
  | .dnew2 => kDnew2
  | .sub2 i k => kSub2 N Γ i (chk N Γ k)
  | .sset a => kSset (chk N Γ a)
  | .revt a => kRevt (chk N Γ a)
  | .dict a => kDict (chk N Γ a)
  | .get2 a b c => kGet2 (chk N Γ a) (chk N Γ b) (chk N Γ c)
  | .revl a => kRevl (chk N Γ a)
  | .spl a b => kSpl (chk N Γ a) (chk N Γ b)
  | .fst c a b => kFst c (chk N Γ a) (chk N Γ b)
  | .qrep c y z a => kQrep c y z (chk N Γ a)
/-- the calls and constants of a term are known -/
def TOk (kn : Kn) : T → Prop
  | .glo x d => kn.GK x d
  | .neg a => TOk kn a
  | .bin _ a b => TOk kn a ∧ TOk kn b
  | .cmp _ a b => TOk kn a ∧ TOk kn b
  | .chn _ _ a b c => TOk kn a ∧ TOk kn b ∧ TOk kn c
  | .and a b => TOk kn a ∧ TOk kn b
  | .or a b => TOk kn a ∧ TOk kn b
  | .not a => TOk kn a
  | .one a => TOk kn a
  | .ife c a b => TOk kn c ∧ TOk kn a ∧ TOk kn b
  | .cons a l => TOk kn a ∧ TOk kn l
  | .tup l => TOk kn l
  | .lst l => TOk kn l
  | .sub a b => TOk kn a ∧ TOk kn b
  | .sli a lo hi => TOk kn a ∧ TOk kn lo ∧ TOk kn hi
  | .call x n t k φ l => kn.FK x n t k φ ∧ TOk kn l
  | .bi _ l => TOk kn l
  | .isi _ a => TOk kn a
  | .idx a b => TOk kn a ∧ TOk kn b
  | .cnt a b => TOk kn a ∧ TOk kn b
  | .join a b => TOk kn a ∧ TOk kn b
  | .ise c tb a => kn.IK c tb ∧ TOk kn a
  | .lc _ elt _ it ifs => TOk kn elt ∧ TOk kn it ∧ TOk kn ifs
  | .lset a => TOk kn a
  | .itS a => TOk kn a
  | .itI a => TOk kn a
  | .itR1 l => TOk kn l
  | .itR2 l => TOk kn l
  | .itE l => TOk kn l
  | .itZ l => TOk kn l
  | .itEZ l => TOk kn l
  | .sub2 _ k => TOk kn k
  | .sset a => TOk kn a
  | .revt a => TOk kn a
  | .dict a => TOk kn a
  | .get2 a b c => TOk kn a ∧ TOk kn b ∧ TOk kn c
  | .revl a => TOk kn a
  | .spl a b => TOk kn a ∧ TOk kn b
  | .fst _ a b => TOk kn a ∧ TOk kn b
  | .qrep _ _ _ a => TOk kn a
  | _ => True
theorem sound {N : List Str} {kk : Nat} {kn : Kn} {Γ : Ow} : ∀ t : T, TOk kn t → SndC N kk kn Γ (chk N Γ t) (den t)
  | .var i, _ => s_var i
  | .con d, _ => s_con d
  | .glo x d, h => s_glo h
  | .neg a, h => s_neg (sound a h)
  | .bin op a b, h => s_bin (sound a h.1) (sound b h.2)
  | .cmp op a b, h => s_cmp (sound a h.1) (sound b h.2)
  | .chn o1 o2 a b c, h => s_chn (sound a h.1) (sound b h.2.1) (sound c h.2.2)
  | .and a b, h => s_and (sound a h.1) (sound b h.2)
  | .or a b, h => s_or (sound a h.1) (sound b h.2)
  | .not a, h => s_not (sound a h)
  | .one a, h => s_one (sound a h)
  | .ife c a b, h => s_ife (sound c h.1) (sound a h.2.1) (sound b h.2.2)
  | .nil, _ => s_nil
  | .cons a l, h => s_cons (sound a h.1) (sound l h.2)
  | .no, _ => s_none
  | .tup l, h => s_tup (sound l h)
  | .lst l, h => s_lst (sound l h)
  | .sub a b, h => s_sub (sound a h.1) (sound b h.2)
  | .sli a lo hi, h => by
    unfold chk
    split
    · rename_i q
      obtain ⟨q1, q2⟩ := and2 q
      exact s_sli q1 q2 (sound a h.1) (sound lo h.2.1) (sound hi h.2.2)
    · exact s_none
  | .call x n t k φ l, h => s_call h.1 (sound l h.2)
  | .bi b l, h => s_bi (sound l h)
  | .isi t a, h => s_isi (sound a h)
  | .idx a b, h => s_idx (sound a h.1) (sound b h.2)
  | .cnt a b, h => s_cnt (sound a h.1) (sound b h.2)
  | .join a b, h => s_join (sound a h.1) (sound b h.2)
  | .ise c tb a, h => s_ise h.1 (sound a h.2)
  | .lc own elt tg it ifs, h => s_lc (sound elt h.1) (sound it h.2.1) (sound ifs h.2.2)
  | .lset a, h => s_lset (sound a h)
  | .itS a, h => s_itS (sound a h)
  | .itI a, h => s_itI (sound a h)
  | .itR1 l, h => s_itR1 (sound l h)
  | .itR2 l, h => s_itR2 (sound l h)
  | .itE l, h => s_itE (sound l h)
  | .itZ l, h => s_itZ (sound l h)
  | .itEZ l, h => s_itEZ (sound l h)
  | .dnew t, _ => s_dnew
  | .dnew2, _ => s_dnew2
  | .sub2 i k, h => s_sub2 (sound k h)
  | .sset a, h => s_sset (sound a h)
  | .revt a, h => s_revt (sound a h)
  | .dict a, h => s_dict (sound a h)
  | .get2 a b c, h => s_get2 (sound a h.1) (sound b h.2.1) (sound c h.2.2)
  | .revl a, h => s_revl (sound a h)
  | .spl a b, h => s_spl (sound a h.1) (sound b h.2)
  | .fst c a b, h => s_fst (sound a h.1) (sound b h.2)
  | .qrep c y z a, h => s_qrep (sound a h)
end Hr

end
section
/-! HrM: statements by terms; defs -/
namespace Hr
open PySem PySem.Spec L2
inductive S where
  | asg (vs : List Nat) (tg : TG) (e : T) | own (i : Nat) (t : OT) (e : T)
  | app (i : Nat) (e : T) | ext (i : Nat) (e : T) | put (i : Nat) (k e : T) | exp (e : T)
  | ret (e : T) | reo (e : T) | rev (i : Nat) | retN | rai (c : Str)
  | tryk (c : Str) (tb : List (Str × Bool)) (i j : Nat) (body : S)
  | ite (c : T) (a b : S) | fr (vs : List Nat) (tg : TG) (it : T) (body : S) | whl (n : Nat) (c : T) (body : S)
  | app2 (i : Nat) (k e : T) | puo (i : Nat) (t : OT) (k e : T) | lput (i : Nat) (j e : T)
  | popT (i : Nat) (k : T) | popL (j i : Nat)
  | par (i j : Nat) (t u : OT) (a b : T)
  | brk | cnt | pas | nil | seq (Γ1 : Ow) (a b : S) | wk (Γ1 : Ow) (b : S)
def dS : S → En → Out
  | .asg _ tg e => sAsg (tgd tg).f (den e).v
  | .own i _ e => sAsg (ftName i) (den e).v
  | .app i e => sApp i (den e).v
  | .ext i e => sExt i (den e).v
  | .put i k e => sPut i (den k).v (den e).v
  | .exp e => sExp (den e).v
  | .ret e => sRet (den e).v
  | .reo e => sRet (den e).v
  | .rev i => sRet (eVar i)
  | .retN => sRetN
  | .rai c => sRai c
  | .tryk _ tb i j b => sTry tb i j (dS b)
  | .ite c a b => sIte (den c).t (dS a) (dS b)
  | .fr _ tg it body => sFor (tgd tg).f (den it).l (dS body)
  | .whl n c body => whlD (den c).t (dS body) n
  | .app2 i k e => sApp2 i (den k).v (den e).v
  | .puo i _ k e => sPuo i (den k).v (den e).v
  | .lput i j e => sLput i (den j).v (den e).v
  | .popT i k => sPopT i (den k).v
  | .popL j i => sPopL j i
  | .par i j _ _ a b => sPar i j (den a).v (den b).v
  | .brk => sBrk
  | .cnt => sCnt
  | .pas => sSkip
  | .nil => sSkip
  | .seq _ a b => sSeq (dS a) (dS b)
  | .wk _ b => dS b
/-- where statements run -/
structure CokS (N : List Str) (kk : Nat) (kn : Kn) (X : Cx) (sc : Scope) (W : WX) : Prop where
  e : Cok N kk kn X sc W
  po : PassesOwn (model X.prog X.w) X.A X.env X.xe
  fn : ∀ x, X.fn x = true
  kd : sc.kind = .function
  xk : ∀ c, kn.XK c → PySem.W.excIn X.K (He.ga X.K c) He.veBase "ValueError.__new__" = true ∧ X.mg c = some (.ref (He.ga X.K c)) ∧ PySem.W.keepIn X.K (.ref (He.ga X.K c)) = true ∧ Raises X (.ref (He.ga X.K c))
  xm : ∀ c tb, kn.MK c tb → X.mg c = some (clsV X.K c) ∧ ∀ d b, tb.lookup d = some b → PySem.W.exmOne X.K (clsV X.K d) (clsV X.K c) = some b
  hs : X.stack = X.env :: X.outer
  hf : X.env.frame = some X.env.locals
  hex : X.ex = []
def isComp : Expr → Bool
  | .ListComp _ _ _ _ => true
  | .SetComp _ _ _ _ => true
  | .DictComp _ _ _ _ _ => true
  | _ => false
theorem swaps_plain {e : Expr} (h : isComp e = false) (t : Option Expr) (l : Nat) (env : Env) : swapsWith e t l env = pure false := by
  cases e <;> first | rfl | cases h
theorem swapsSole_plain {e : Expr} (h : isComp e = false) (t : Expr) (l : Nat) (env : Env) : swapsWithSole [t] e l env = pure false := swaps_plain h _ _ _
def noPar : Expr → Expr → Bool
  | .Tuple _ _ _, .Tuple _ _ _ => false
  | .List _ _, .Tuple _ _ _ => false
  | _, _ => true
theorem noPar_ok {tg e : Expr} (h : noPar tg e = true) (env : Env) : swappedStores [tg] e env = pure none := by
  cases tg <;> first
    | rfl
    | (cases e <;> first | rfl | cases h)
/-- does the store go within the comprehension's frame? -/
def swapB (sc : Scope) (y : Str) (py : Pos) (e : Expr) : Bool := match e with
  | .ListComp _ _ scope pos => lclB sc y && (py.line == pos.line) && !(scope.names.any fun (n, k) => n == y && (k == .local || k == .cell))
  | _ => false
def isLc : Expr → Bool
  | .ListComp _ _ _ _ => true
  | _ => false
theorem kindOf_scope (env : Env) (x : Str) : env.kindOf x = env.scope.names.lookup x := rfl
theorem swapB_false {sc : Scope} {y : Str} {py : Pos} {e : Expr} {env : Env} (hk : env.scope.kind = .function) (hs : env.scope = sc) (he : isLc e = true) (h : swapB sc y py e = false) (l : Nat) : swapsWith e (some (.Name y py)) l env = pure false := by
  cases e with
  | ListComp elt gs scope pos =>
    have hb : env.blockKind = .function := by unfold Env.blockKind; rw [hk]; rfl
    unfold swapsWith
    simp only [hb]
    unfold swapB lclB at h
    subst hs
    rw [kindOf_scope]
    cases q : env.scope.names.lookup y with
    | none => simp
    | some k =>
      rw [q] at h
      cases k <;> first | rfl | skip
      · simp only [Bool.true_and] at h
        cases q1 : (py.line == pos.line) with
        | false => simp [Expr.pos, q1]
        | true =>
          rw [q1] at h
          simp only [Bool.true_and] at h
          have h' : (scope.names.any fun (n, k) => n == y && (k == .local || k == .cell)) = true := by simpa using h
          simp only [Expr.pos, q1]
          rw [h']
          rfl
  | _ => cases he
def sameOff (i : Nat) (Γ Γn : Ow) : Bool := (Γ.map (·.1) ++ Γn.map (·.1)).all fun j => decide (j = i) || decide (oty Γn j = oty Γ j)
theorem sameOff_ok {i : Nat} {Γ Γn : Ow} (h : sameOff i Γ Γn = true) : ∀ j, j ≠ i → oty Γn j = oty Γ j := by
  intro j hj
  by_cases m : j ∈ Γ.map (·.1) ++ Γn.map (·.1)
  · have := List.all_eq_true.mp h j m
    rcases Bool.or_eq_true_iff.mp this with q | q
    · exact absurd (of_decide_eq_true q) hj
    · exact of_decide_eq_true q
  · rw [oty_none fun q => m (List.mem_append_right _ q), oty_none fun q => m (List.mem_append_left _ q)]
abbrev Cs := Ow → Ow → OC → Sum Stmt (List Stmt) → Bool
def SndS (N : List Str) (kk : Nat) (kn : Kn) (sc : Scope) (c : Cs) (f : En → Out) : Prop := ∀ (X : Cx) (B : Base) (W : WX), CokS N kk kn X sc W → ∀ Γ Γn o st, c Γ Γn o st = true → match st with
  | .inl st => SV X B W Γ Γn o st f
  | .inr sts => SVs X B W Γ Γn o sts f
section
variable {N : List Str} {kk : Nat} {kn : Kn} {sc : Scope} {ca cb : Cs} {f g : En → Out}
def kAsg (N : List Str) (sc : Scope) (vs : List Nat) (tg : TG) (e : T) : Cs := fun Γ Γn o st => match st with
  | .inl (.Assign [t] x p) => decide (Γn = Γ) && leB Γ o.x && !(isComp x) && noPar t x && noStar t && chk N Γ e sc .v (.inl x) && chkG N Γ vs true tg sc (.inl t)
  | _ => false
theorem s_asg {vs : List Nat} {tg : TG} {e : T} (he : TOk kn e) : SndS N kk kn sc (kAsg N sc vs tg e) (dS (.asg vs tg e)) := by
  intro X B W hX Γ Γn o st h
  unfold kAsg at h
  split at h
  · obtain ⟨h, h7⟩ := and2 h
    obtain ⟨h, h6⟩ := and2 h
    obtain ⟨h, h5⟩ := and2 h
    obtain ⟨h, h4⟩ := and2 h
    obtain ⟨h, h3⟩ := and2 h
    obtain ⟨h1, h2⟩ := and2 h
    have e1 := of_decide_eq_true h1
    subst e1
    exact sv_asg (leB_ok h2) (swaps_plain (by simpa using h3) _ _ _) (noPar_ok h4 _) h5 (sound e he X B W sc hX.e .v _ h6) (chkG_ok hX.e.hN hX.e.hS hX.e.calm hX.e.nd (fun _ => hX.fn) tg _ h7)
  · cases h
def T.lcParts : T → Option (List (Str × Nat) × T × TG × T × T)
  | .lc own elt tg it ifs => some (own, elt, tg, it, ifs)
  | _ => none
def kOwn (N : List Str) (sc : Scope) (i : Nat) (t : OT) (e : T) : Cs := fun Γ Γn o st => match st with
  | .inl (.Assign [.Name x q] y p) => leB Γ o.x && decide (oty Γn i = t) && sameOff i Γ Γn && decide (N[i]? = some x) && locB sc x && noPar (.Name x q) y &&
      (if isComp y = true then isLc y && (if swapB sc x q y = true then (match e with
          | .lc own elt tg it ifs => decide (t = .own .fz) && lcCore N Γ own tg ifs.isNo (chk N Γ elt) (chk N Γ it) (chk N Γ ifs) sc y
          | _ => false) else chk N Γ e sc (.o t) (.inl y)) else chk N Γ e sc (.o t) (.inl y))
  | _ => false
theorem s_own {i : Nat} {t : OT} {e : T} (he : TOk kn e) : SndS N kk kn sc (kOwn N sc i t e) (dS (.own i t e)) := by
  intro X B W hX Γ Γn o st h
  unfold kOwn at h
  split at h
  · rename_i x q y p
    obtain ⟨h, h7⟩ := and2 h
    obtain ⟨h, h6⟩ := and2 h
    obtain ⟨h, h5⟩ := and2 h
    obtain ⟨h, h4⟩ := and2 h
    obtain ⟨h, h3⟩ := and2 h
    obtain ⟨h1, h2⟩ := and2 h
    have hN : X.N[i]? = some x := by rw [hX.e.hN]; exact of_decide_eq_true h4
    have hnd : X.N.Nodup := by rw [hX.e.hN]; exact hX.e.nd
    have hx : L2.Loc X.env.scope x := by rw [hX.e.hS]; exact locB_ok h5
    have hk : X.env.scope.kind = .function := by rw [hX.e.hS]; exact hX.kd
    by_cases c : isComp y = true
    · rw [if_pos c] at h7
      obtain ⟨hl, h7⟩ := and2 h7
      by_cases w : swapB sc x q y = true
      · rw [if_pos w] at h7
        cases e with
        | lc own elt tg it ifs =>
          obtain ⟨h8, h9⟩ := and2 h7
          have et : t = .own .fz := of_decide_eq_true h8
          subst et
          have he : TOk kn elt ∧ TOk kn it ∧ TOk kn ifs := he
          obtain ⟨e0, tt, iter, fs, scope, pp, rfl, L⟩ := lcCore_ok (B := B) hX.e (sound elt he.1) (sound it he.2.1) (sound ifs he.2.2) h9
          obtain ⟨w, w3⟩ := and2 (show (lclB sc x && (q.line == pp.line) && !(scope.names.any fun (n, k) => n == x && (k == .local || k == .cell))) = true from w)
          obtain ⟨w1, w2⟩ := and2 w
          have hl : X.env.scope.names.lookup x = some .local := by rw [hX.e.hS]; exact lclB_ok w1
          exact sv_setLc (t := .own .fz) (leB_ok h1) (of_decide_eq_true h2) (sameOff_ok h3) hX.e.calm hnd hN hl (sw_true hk hl w2 (by simpa using w3)) rfl L.st L.hi L.ok L.hg L.ht L.he
        | _ => cases h7
      · rw [if_neg w] at h7
        exact sv_own (leB_ok h1) (of_decide_eq_true h2) (sameOff_ok h3) (show swapsWithSole [.Name x q] y p.line X.env = pure false from swapB_false hk hX.e.hS hl (by simpa using w) p.line) (noPar_ok h6 _) hnd hN hx (.inl (hX.fn x)) (sound e he X B W sc hX.e (.o t) _ h7)
    · rw [if_neg c] at h7
      exact sv_own (leB_ok h1) (of_decide_eq_true h2) (sameOff_ok h3) (swapsSole_plain (by simpa using c) _ _ _) (noPar_ok h6 _) hnd hN hx (.inl (hX.fn x)) (sound e he X B W sc hX.e (.o t) _ h7)
  · cases h
def kApp (N : List Str) (sc : Scope) (nm : Str) (i : Nat) (e : T) (m : Md) : Cs := fun Γ Γn o st => match st with
  | .inl (.Expr (.Call (.Attribute (.Name x p) y ap) [a] [] cp) q) => decide (Γn = Γ) && leB Γ o.x && decide (nm = y) && decide (oty Γ i = .own .fz) && decide (N[i]? = some x) && visB sc x && (ap.endLine == cp.line) && noStar a && chk N Γ e sc m (.inl a)
  | _ => false
theorem s_app {i : Nat} {e : T} (he : TOk kn e) : SndS N kk kn sc (kApp N sc "append" i e .v) (dS (.app i e)) := by
  intro X B W hX Γ Γn o st h
  unfold kApp at h
  split at h
  · rename_i x p y ap a cp q
    obtain ⟨h, h9⟩ := and2 h
    obtain ⟨h, h8⟩ := and2 h
    obtain ⟨h, h7⟩ := and2 h
    obtain ⟨h, h6⟩ := and2 h
    obtain ⟨h, h5⟩ := and2 h
    obtain ⟨h, h4⟩ := and2 h
    obtain ⟨h, h3⟩ := and2 h
    obtain ⟨h1, h2⟩ := and2 h
    have e1 := of_decide_eq_true h1
    have e3 := of_decide_eq_true h3
    subst e1 e3
    obtain ⟨v, d1, d2⟩ := visB_ok (sc := X.env.scope) (x := x) (by rw [hX.e.hS]; exact h6)
    exact sv_app (leB_ok h2) (of_decide_eq_true h4) (by rw [hX.e.hN]; exact of_decide_eq_true h5) v d1 d2 h7 h8 (sound e he X B W sc hX.e .v _ h9)
  · cases h
theorem s_ext {i : Nat} {e : T} (he : TOk kn e) : SndS N kk kn sc (kApp N sc "extend" i e .b) (dS (.ext i e)) := by
  intro X B W hX Γ Γn o st h
  unfold kApp at h
  split at h
  · rename_i x p y ap a cp q
    obtain ⟨h, h9⟩ := and2 h
    obtain ⟨h, h8⟩ := and2 h
    obtain ⟨h, h7⟩ := and2 h
    obtain ⟨h, h6⟩ := and2 h
    obtain ⟨h, h5⟩ := and2 h
    obtain ⟨h, h4⟩ := and2 h
    obtain ⟨h, h3⟩ := and2 h
    obtain ⟨h1, h2⟩ := and2 h
    have e1 := of_decide_eq_true h1
    have e3 := of_decide_eq_true h3
    subst e1 e3
    obtain ⟨v, d1, d2⟩ := visB_ok (sc := X.env.scope) (x := x) (by rw [hX.e.hS]; exact h6)
    exact sv_ext (leB_ok h2) (of_decide_eq_true h4) (by rw [hX.e.hN]; exact of_decide_eq_true h5) v d1 d2 h7 h8 (sound e he X B W sc hX.e .b _ h9)
  · cases h
def kPut (N : List Str) (sc : Scope) (i : Nat) (k e : T) : Cs := fun Γ Γn o st => match st with
  | .inl (.Assign [.Subscript (.Name x p) ke q] a r) => decide (Γn = Γ) && leB Γ o.x && decide (oty Γ i = .own .fz) && decide (N[i]? = some x) && visB sc x && !(isComp a) && chk N Γ k sc .v (.inl ke) && chk N Γ e sc .v (.inl a)
  | _ => false
theorem s_put {i : Nat} {k e : T} (hk : TOk kn k) (he : TOk kn e) : SndS N kk kn sc (kPut N sc i k e) (dS (.put i k e)) := by
  intro X B W hX Γ Γn o st h
  unfold kPut at h
  split at h
  · rename_i x p ke q a r
    obtain ⟨h, h8⟩ := and2 h
    obtain ⟨h, h7⟩ := and2 h
    obtain ⟨h, h6⟩ := and2 h
    obtain ⟨h, h5⟩ := and2 h
    obtain ⟨h, h4⟩ := and2 h
    obtain ⟨h, h3⟩ := and2 h
    obtain ⟨h1, h2⟩ := and2 h
    have e1 := of_decide_eq_true h1
    subst e1
    obtain ⟨v, d1, d2⟩ := visB_ok (sc := X.env.scope) (x := x) (by rw [hX.e.hS]; exact h5)
    exact sv_put (by have := hX.e.un; omega) (leB_ok h2) (of_decide_eq_true h3) (by rw [hX.e.hN]; exact of_decide_eq_true h4) v d1 d2 (swaps_plain (by simpa using h6) _ _ _) (sound k hk X B W sc hX.e .v _ h7) (sound e he X B W sc hX.e .v _ h8)
  · cases h
theorem swaps_sub (e a b : Expr) (p : Pos) (l : Nat) (env : Env) : swapsWith e (some (.Subscript a b p)) l env = pure false := by
  cases e <;> rfl
def kApp2 (N : List Str) (sc : Scope) (i : Nat) (k e : T) : Cs := fun Γ Γn o st => match st with
  | .inl (.Expr (.Call (.Attribute (.Subscript (.Name x p) ke p2) y ap) [a] [] cp) q) => decide (Γn = Γ) && leB Γ o.x && decide (("append" : Str) = y) && decide (oty Γ i = .own (.own .fz)) && decide (N[i]? = some x) && visB sc x && notSl ke && (ap.endLine == cp.line) && noStar a && chk N Γ k sc .v (.inl ke) && chk N Γ e sc .v (.inl a)
  | _ => false
theorem s_app2 {i : Nat} {k e : T} (hk : TOk kn k) (he : TOk kn e) : SndS N kk kn sc (kApp2 N sc i k e) (dS (.app2 i k e)) := by
  intro X B W hX Γ Γn o st h
  unfold kApp2 at h
  split at h
  · rename_i x p ke p2 y ap a cp q
    obtain ⟨h, h11⟩ := and2 h
    obtain ⟨h, h10⟩ := and2 h
    obtain ⟨h, h9⟩ := and2 h
    obtain ⟨h, h8⟩ := and2 h
    obtain ⟨h, h7⟩ := and2 h
    obtain ⟨h, h6⟩ := and2 h
    obtain ⟨h, h5⟩ := and2 h
    obtain ⟨h, h4⟩ := and2 h
    obtain ⟨h, h3⟩ := and2 h
    obtain ⟨h1, h2⟩ := and2 h
    have e1 := of_decide_eq_true h1
    have e3 := of_decide_eq_true h3
    subst e1 e3
    obtain ⟨v, d1, d2⟩ := visB_ok (sc := X.env.scope) (x := x) (by rw [hX.e.hS]; exact h6)
    exact sv_app2 (by have := hX.e.un; omega) (leB_ok h2) (of_decide_eq_true h4) (by rw [hX.e.hN]; exact of_decide_eq_true h5) v d1 d2 (plainIx_ok h7) h8 h9 (sound k hk X B W sc hX.e .v _ h10) (sound e he X B W sc hX.e .v _ h11)
  · cases h
def kPuo (N : List Str) (sc : Scope) (i : Nat) (t : OT) (k e : T) : Cs := fun Γ Γn o st => match st with
  | .inl (.Assign [.Subscript (.Name x p) ke q] a r) => decide (Γn = Γ) && leB Γ o.x && decide (oty Γ i = .own t) && decide (N[i]? = some x) && visB sc x && chk N Γ k sc .v (.inl ke) && chk N Γ e sc (.o t) (.inl a)
  | _ => false
theorem s_puo {i : Nat} {t : OT} {k e : T} (hk : TOk kn k) (he : TOk kn e) : SndS N kk kn sc (kPuo N sc i t k e) (dS (.puo i t k e)) := by
  intro X B W hX Γ Γn o st h
  unfold kPuo at h
  split at h
  · rename_i x p ke q a r
    obtain ⟨h, h7⟩ := and2 h
    obtain ⟨h, h6⟩ := and2 h
    obtain ⟨h, h5⟩ := and2 h
    obtain ⟨h, h4⟩ := and2 h
    obtain ⟨h, h3⟩ := and2 h
    obtain ⟨h1, h2⟩ := and2 h
    have e1 := of_decide_eq_true h1
    subst e1
    obtain ⟨v, d1, d2⟩ := visB_ok (sc := X.env.scope) (x := x) (by rw [hX.e.hS]; exact h5)
    exact sv_puo (by have := hX.e.un; omega) (leB_ok h2) (of_decide_eq_true h3) (by rw [hX.e.hN]; exact of_decide_eq_true h4) v d1 d2 (swaps_sub _ _ _ _ _ _) (sound k hk X B W sc hX.e .v _ h6) (sound e he X B W sc hX.e (.o t) _ h7)
  · cases h
def kLput (N : List Str) (sc : Scope) (i : Nat) (j e : T) : Cs := fun Γ Γn o st => match st with
  | .inl (.Assign [.Subscript (.Name x p) ke q] a r) => decide (Γn = Γ) && leB Γ o.x && decide (oty Γ i = .own .fz) && decide (N[i]? = some x) && visB sc x && chk N Γ j sc .v (.inl ke) && chk N Γ e sc .v (.inl a)
  | _ => false
theorem s_lput {i : Nat} {j e : T} (hk : TOk kn j) (he : TOk kn e) : SndS N kk kn sc (kLput N sc i j e) (dS (.lput i j e)) := by
  intro X B W hX Γ Γn o st h
  unfold kLput at h
  split at h
  · rename_i x p ke q a r
    obtain ⟨h, h7⟩ := and2 h
    obtain ⟨h, h6⟩ := and2 h
    obtain ⟨h, h5⟩ := and2 h
    obtain ⟨h, h4⟩ := and2 h
    obtain ⟨h, h3⟩ := and2 h
    obtain ⟨h1, h2⟩ := and2 h
    have e1 := of_decide_eq_true h1
    subst e1
    obtain ⟨v, d1, d2⟩ := visB_ok (sc := X.env.scope) (x := x) (by rw [hX.e.hS]; exact h5)
    exact sv_lput (leB_ok h2) (of_decide_eq_true h3) (by rw [hX.e.hN]; exact of_decide_eq_true h4) v d1 d2 (swaps_sub _ _ _ _ _ _) (sound j hk X B W sc hX.e .v _ h6) (sound e he X B W sc hX.e .v _ h7)
  · cases h
def kExp (N : List Str) (sc : Scope) (e : T) : Cs := fun Γ Γn o st => match st with
  | .inl (.Expr a q) => decide (Γn = Γ) && leB Γ o.x && !(isComp a) && chk N Γ e sc .b (.inl a)
  | _ => false
theorem s_exp {e : T} (he : TOk kn e) : SndS N kk kn sc (kExp N sc e) (dS (.exp e)) := by
  intro X B W hX Γ Γn o st h
  unfold kExp at h
  split at h
  · obtain ⟨h, h4⟩ := and2 h
    obtain ⟨h, h3⟩ := and2 h
    obtain ⟨h1, h2⟩ := and2 h
    have e1 := of_decide_eq_true h1
    subst e1
    exact sv_exp (leB_ok h2) (swaps_plain (by simpa using h3) _ _ _) (sound e he X B W sc hX.e .b _ h4)
  · cases h
def kRet (N : List Str) (sc : Scope) (e : T) : Cs := fun Γ Γn o st => match st with
  | .inl (.Return (some a) q) => leB Γ o.x && decide (o.t = .fz) && chk N Γ e sc .v (.inl a)
  | _ => false
theorem s_ret {e : T} (he : TOk kn e) : SndS N kk kn sc (kRet N sc e) (dS (.ret e)) := by
  intro X B W hX Γ Γn o st h
  unfold kRet at h
  split at h
  · obtain ⟨h, h3⟩ := and2 h
    obtain ⟨h1, h2⟩ := and2 h
    exact sv_ret (leB_ok h1) (of_decide_eq_true h2) (sound e he X B W sc hX.e .v _ h3)
  · cases h
def kReo (N : List Str) (sc : Scope) (e : T) : Cs := fun Γ Γn o st => match st with
  | .inl (.Return (some a) q) => leB Γ o.x && chk N Γ e sc (.o o.t) (.inl a)
  | _ => false
theorem s_reo {e : T} (he : TOk kn e) : SndS N kk kn sc (kReo N sc e) (dS (.reo e)) := by
  intro X B W hX Γ Γn o st h
  unfold kReo at h
  split at h
  · obtain ⟨h1, h2⟩ := and2 h
    exact sv_reo (leB_ok h1) (sound e he X B W sc hX.e (.o o.t) _ h2)
  · cases h
def kRev (N : List Str) (sc : Scope) (i : Nat) : Cs := fun Γ Γn o st => match st with
  | .inl (.Return (some (.Name x p)) q) => decide (N[i]? = some x) && visB sc x && decide (oty Γ i = o.t)
  | _ => false
theorem s_rev {i : Nat} : SndS N kk kn sc (kRev N sc i) (dS (.rev i)) := by
  intro X B W hX Γ Γn o st h
  unfold kRev at h
  split at h
  · rename_i x p q
    obtain ⟨h, h3⟩ := and2 h
    obtain ⟨h1, h2⟩ := and2 h
    obtain ⟨v, d1, d2⟩ := visB_ok (sc := X.env.scope) (x := x) (by rw [hX.e.hS]; exact h2)
    exact sv_rev (by rw [hX.e.hN]; exact of_decide_eq_true h1) v d1 d2 (of_decide_eq_true h3)
  · cases h
def kRetN : Cs := fun Γ Γn o st => match st with
  | .inl (.Return none q) => decide (o.t = .fz)
  | _ => false
theorem s_retN : SndS N kk kn sc kRetN (dS .retN) := by
  intro X B W hX Γ Γn o st h
  unfold kRetN at h
  split at h
  · exact sv_retN (of_decide_eq_true h)
  · cases h
def kRai (sc : Scope) (c : Str) : Cs := fun Γ Γn o st => match st with
  | .inl (.Raise (some (.Call (.Name x p) [.Constant (.str m) j p2] [] p3)) none q) => leB Γ o.x && decide (c = x) && glB sc c
  | _ => false
theorem s_rai {c : Str} (hc : kn.XK c) : SndS N kk kn sc (kRai sc c) (dS (.rai c)) := by
  intro X B W hX Γ Γn o st h
  unfold kRai at h
  split at h
  · obtain ⟨h, h3⟩ := and2 h
    obtain ⟨h1, h2⟩ := and2 h
    have e1 := of_decide_eq_true h2
    subst e1
    obtain ⟨g, db⟩ := glB_ok (X := X) (x := c) (by rw [hX.e.hS]; exact h3)
    obtain ⟨x1, x2, x3, x4⟩ := hX.xk c hc
    exact sv_rai (leB_ok h1) hX.e.calm hX.e.tk x1 x2 x3 x4 g db
  · cases h
def kTry (N : List Str) (sc : Scope) (c : Str) (i j : Nat) (cb : Cs) : Cs := fun Γ Γn o st => match st with
  | .inl (.Try body [.ExceptHandler (some (.Name x np)) (some n) [.Assign [.Name y p1] (.Name n' p2) p3] pos'] [] [] pos) => decide (c = x) && glB sc c && decide (n' = n) && decide (N[i]? = some n) && lclB sc n && visB sc n && decide (N[j]? = some y) && lclB sc y && decide (oty Γn j = .fz) && leB Γn o.x && cb Γ Γn { o with x := Γn } (.inr body)
  | _ => false
theorem s_try {c : Str} {tb : List (Str × Bool)} {i j : Nat} {b : S} (hm : kn.MK c tb) (hb : SndS N kk kn sc cb (dS b)) : SndS N kk kn sc (kTry N sc c i j cb) (dS (.tryk c tb i j b)) := by
  intro X B W hX Γ Γn o st h
  unfold kTry at h
  split at h
  · rename_i body x np n y p1 n' p2 p3 pos' pos
    obtain ⟨h, h11⟩ := and2 h
    obtain ⟨h, h10⟩ := and2 h
    obtain ⟨h, h9⟩ := and2 h
    obtain ⟨h, h8⟩ := and2 h
    obtain ⟨h, h7⟩ := and2 h
    obtain ⟨h, h6⟩ := and2 h
    obtain ⟨h, h5⟩ := and2 h
    obtain ⟨h, h4⟩ := and2 h
    obtain ⟨h, h3⟩ := and2 h
    obtain ⟨h1, h2⟩ := and2 h
    have e1 := of_decide_eq_true h1
    have e3 := of_decide_eq_true h3
    subst e1 e3
    obtain ⟨g, db⟩ := glB_ok (X := X) (x := c) (by rw [hX.e.hS]; exact h2)
    obtain ⟨mg, mt⟩ := hX.xm c tb hm
    obtain ⟨_, d1, d2⟩ := visB_ok (sc := X.env.scope) (x := n') (by rw [hX.e.hS]; exact h6)
    have hl1 : X.env.kindOf n' = some .local := by rw [kindOf_scope, hX.e.hS]; exact lclB_ok h5
    have hl2 : X.env.kindOf y = some .local := by rw [kindOf_scope, hX.e.hS]; exact lclB_ok h8
    exact sv_try hX.hs hX.hf (by rw [hX.e.hN]; exact hX.e.nd) (by rw [hX.e.hN]; exact of_decide_eq_true h4) hl1 (by rw [hX.e.hN]; exact of_decide_eq_true h7) hl2 d1 d2 hX.hex ⟨g, db, .inl mg⟩ hX.e.tk mt (of_decide_eq_true h9) (leB_ok h10) fun W' pn xe tk po =>
      hb (X.tr pn xe) B W' ⟨⟨hX.e.hN, hX.e.hS, hX.e.calm, hX.e.nd, hX.e.room, tk, hX.e.blt, hX.e.fk, hX.e.gk, hX.e.ik⟩, po, hX.fn, hX.kd, hX.xk, hX.xm, hX.hs, hX.hf, hX.hex⟩ Γ Γn _ _ h11
  · cases h
def kIte (N : List Str) (sc : Scope) (c : T) (ca cb : Cs) : Cs := fun Γ Γn o st => match st with
  | .inl (.If t a b p) => leB Γ o.x && chk N Γ c sc .t (.inl t) && ca Γ Γn o (.inr a) && cb Γ Γn o (.inr b)
  | _ => false
theorem s_ite {c : T} {a b : S} (hc : TOk kn c) (ha : SndS N kk kn sc ca (dS a)) (hb : SndS N kk kn sc cb (dS b)) : SndS N kk kn sc (kIte N sc c ca cb) (dS (.ite c a b)) := by
  intro X B W hX Γ Γn o st h
  unfold kIte at h
  split at h
  · obtain ⟨h, h4⟩ := and2 h
    obtain ⟨h, h3⟩ := and2 h
    obtain ⟨h1, h2⟩ := and2 h
    exact sv_ite (leB_ok h1) (sound c hc X B W sc hX.e .t _ h2) (ha X B W hX Γ Γn o _ h3) (hb X B W hX Γ Γn o _ h4)
  · cases h
def kFor (N : List Str) (sc : Scope) (vs : List Nat) (tg : TG) (it : T) (cb : Cs) : Cs := fun Γ Γn o st => match st with
  | .inl (.For t i body [] p) => decide (Γn = Γ) && leB Γ o.x && notSet i && chk N Γ it sc (.f t) (.inl i) && chkG N Γ vs true tg sc (.inl t) && cb Γ Γ { o with l := Γ } (.inr body)
  | _ => false
theorem s_for {vs : List Nat} {tg : TG} {it : T} {b : S} (hi : TOk kn it) (hb : SndS N kk kn sc cb (dS b)) : SndS N kk kn sc (kFor N sc vs tg it cb) (dS (.fr vs tg it b)) := by
  intro X B W hX Γ Γn o st h
  unfold kFor at h
  split at h
  · obtain ⟨h, h6⟩ := and2 h
    obtain ⟨h, h5⟩ := and2 h
    obtain ⟨h, h4⟩ := and2 h
    obtain ⟨h, h3⟩ := and2 h
    obtain ⟨h1, h2⟩ := and2 h
    have e1 := of_decide_eq_true h1
    subst e1
    exact sv_for (leB_ok h2) hX.po hX.e.calm h3 (sound it hi X B W sc hX.e (.f _) _ h4) (chkG_ok hX.e.hN hX.e.hS hX.e.calm hX.e.nd (fun _ => hX.fn) tg _ h5) (hb X B W hX _ _ _ _ h6)
  · cases h
def kWhl (N : List Str) (sc : Scope) (c : T) (cb : Cs) : Cs := fun Γ Γn o st => match st with
  | .inl (.While t body [] p) => decide (Γn = Γ) && leB Γ o.x && chk N Γ c sc .t (.inl t) && cb Γ Γ { o with l := Γ } (.inr body)
  | _ => false
theorem s_whl {n : Nat} {c : T} {b : S} (hc : TOk kn c) (hb : SndS N kk kn sc cb (dS b)) : SndS N kk kn sc (kWhl N sc c cb) (dS (.whl n c b)) := by
  intro X B W hX Γ Γn o st h
  unfold kWhl at h
  split at h
  · obtain ⟨h, h4⟩ := and2 h
    obtain ⟨h, h3⟩ := and2 h
    obtain ⟨h1, h2⟩ := and2 h
    have e1 := of_decide_eq_true h1
    subst e1
    exact sv_whl n (leB_ok h2) hX.po (sound c hc X B W sc hX.e .t _ h3) (hb X B W hX _ _ _ _ h4)
  · cases h
def kPopT (N : List Str) (sc : Scope) (i : Nat) (e : T) : Cs := fun Γ Γn o st => match st with
  | .inl (.Expr (.Call (.Attribute (.Name x p) y ap) [a] [] cp) q) => decide (Γn = Γ) && leB Γ o.x && decide (("pop" : Str) = y) && decide (oty Γ i = .own .fz) && decide (N[i]? = some x) && visB sc x && (ap.endLine == cp.line) && noStar a && chk N Γ e sc .v (.inl a)
  | _ => false
theorem s_popT {i : Nat} {e : T} (he : TOk kn e) : SndS N kk kn sc (kPopT N sc i e) (dS (.popT i e)) := by
  intro X B W hX Γ Γn o st h
  unfold kPopT at h
  split at h
  · rename_i x p y ap a cp q
    obtain ⟨h, h9⟩ := and2 h
    obtain ⟨h, h8⟩ := and2 h
    obtain ⟨h, h7⟩ := and2 h
    obtain ⟨h, h6⟩ := and2 h
    obtain ⟨h, h5⟩ := and2 h
    obtain ⟨h, h4⟩ := and2 h
    obtain ⟨h, h3⟩ := and2 h
    obtain ⟨h1, h2⟩ := and2 h
    have e1 := of_decide_eq_true h1
    have e3 := of_decide_eq_true h3
    subst e1 e3
    obtain ⟨v, d1, d2⟩ := visB_ok (sc := X.env.scope) (x := x) (by rw [hX.e.hS]; exact h6)
    exact sv_popT (by have := hX.e.un; omega) (leB_ok h2) (of_decide_eq_true h4) (by rw [hX.e.hN]; exact of_decide_eq_true h5) v d1 d2 h7 h8 (sound e he X B W sc hX.e .v _ h9)
  · cases h
def kPopL (N : List Str) (sc : Scope) (j i : Nat) : Cs := fun Γ Γn o st => match st with
  | .inl (.Assign [.Name y p1] (.Call (.Attribute (.Name x p) m ap) [] [] cp) q) => decide (Γn = Γ) && leB Γ o.x && decide (("pop" : Str) = m) && decide (oty Γ i = .own .fz) && decide (oty Γ j = .fz) && decide (N[i]? = some x) && visB sc x && (ap.endLine == cp.line) && decide (N[j]? = some y) && locB sc y
  | _ => false
theorem s_popL {j i : Nat} : SndS N kk kn sc (kPopL N sc j i) (dS (.popL j i)) := by
  intro X B W hX Γ Γn o st h
  unfold kPopL at h
  split at h
  · rename_i y p1 x p m ap cp q
    obtain ⟨h, h10⟩ := and2 h
    obtain ⟨h, h9⟩ := and2 h
    obtain ⟨h, h8⟩ := and2 h
    obtain ⟨h, h7⟩ := and2 h
    obtain ⟨h, h6⟩ := and2 h
    obtain ⟨h, h5⟩ := and2 h
    obtain ⟨h, h4⟩ := and2 h
    obtain ⟨h, h3⟩ := and2 h
    obtain ⟨h1, h2⟩ := and2 h
    have e1 := of_decide_eq_true h1
    have e3 := of_decide_eq_true h3
    subst e1 e3
    obtain ⟨v, d1, d2⟩ := visB_ok (sc := X.env.scope) (x := x) (by rw [hX.e.hS]; exact h7)
    exact sv_popL (leB_ok h2) (of_decide_eq_true h4) (of_decide_eq_true h5) (by rw [hX.e.hN]; exact hX.e.nd) (by rw [hX.e.hN]; exact of_decide_eq_true h6) v d1 d2 h8 (by rw [hX.e.hN]; exact of_decide_eq_true h9) (by rw [hX.e.hS]; exact locB_ok h10) (.inl (hX.fn y))
  · cases h
theorem oty_cons_self (i : Nat) (t : OT) (Γ : Ow) : oty ((i, t) :: Γ) i = t := by unfold oty; simp [List.lookup]
theorem oty_cons_ne {i k : Nat} {t : OT} {Γ : Ow} (h : k ≠ i) : oty ((i, t) :: Γ) k = oty Γ k := by
  unfold oty
  have : (k == i) = false := by simpa using h
  simp [List.lookup, this]
theorem EV.eoz {X : Cx} {B : Base} {W : WX} {Γ : Ow} {e : Expr} {f : En → R D} (h : EV X B W Γ e f) : EO X B W Γ .fz e f :=
  PE.imp h fun σ H Q ⟨s, G, rl, k⟩ => ⟨s, G, rl, k.imp (fun d _ k v G' H' g r => k v G' H' g (New.fz r)) fun _ z => z⟩
def mdO (t : OT) : Md := if t = .fz then .v else .o t
theorem mdO_ok {a : T} (ha : TOk kn a) {X : Cx} {B : Base} {W : WX} {Γ : Ow} {t : OT} {e : Expr} (hX : Cok N kk kn X sc W) (h : chk N Γ a sc (mdO t) (.inl e) = true) : EO X B W Γ t e (den a).v := by
  unfold mdO at h
  by_cases ht : t = .fz
  · subst ht
    rw [if_pos rfl] at h
    exact EV.eoz (sound a ha X B W sc hX .v _ h)
  · rw [if_neg ht] at h
    exact sound a ha X B W sc hX (.o t) _ h
def kPar (N : List Str) (sc : Scope) (i j : Nat) (t u : OT) (ca cb : Ck) : Cs := fun Γ Γn o st => match st with
  | .inl (.Assign [.Tuple [.Name x px, .Name y py] kt pt] (.Tuple [a, b] k2 pt2) p) => leB Γ o.x && decide (oty Γn i = t) && decide (oty Γn j = u) && sameOff j ((i, t) :: Γ) Γn && decide (N[i]? = some x) && decide (N[j]? = some y) && decide (i ≠ j) && (if (lclB sc x && lclB sc y) = true then parB a b px py x y else locB sc x && locB sc y && noStar a && noStar b) && ca sc (mdO t) (.inl a) && cb sc (mdO u) (.inl b)
  | _ => false
theorem s_par {i j : Nat} {t u : OT} {a b : T} (ha : TOk kn a) (hb : TOk kn b) : SndS N kk kn sc (fun Γ => kPar N sc i j t u (chk N Γ a) (chk N Γ b) Γ) (dS (.par i j t u a b)) := by
  intro X B W hX Γ Γn o st h
  simp only at h
  unfold kPar at h
  split at h
  · rename_i x px y py kt pt ea eb k2 pt2 pp
    obtain ⟨h, hcb⟩ := and2 h
    obtain ⟨h, hca⟩ := and2 h
    obtain ⟨h, hp⟩ := and2 h
    obtain ⟨h, hij⟩ := and2 h
    obtain ⟨h, hNj⟩ := and2 h
    obtain ⟨h, hNi⟩ := and2 h
    obtain ⟨h, hso⟩ := and2 h
    obtain ⟨h, hu⟩ := and2 h
    obtain ⟨hl, ht⟩ := and2 h
    have hk : X.env.scope.kind = .function := by rw [hX.e.hS]; exact hX.kd
    have bk : X.env.blockKind = .function := by unfold Env.blockKind; rw [hk]; rfl
    have hne := of_decide_eq_true hij
    by_cases hxy : (lclB sc x && lclB sc y) = true
    · rw [if_pos hxy] at hp
      obtain ⟨hx, hy⟩ := and2 hxy
      have lx := lclB_ok hx
      have ly := lclB_ok hy
      rw [← hX.e.hS] at lx ly
      have hp2 := hp
      unfold parB at hp2
      simp only [Bool.and_eq_true] at hp2
      exact sv_par (Γ1 := (i, t) :: Γ) (leB_ok hl) hX.e.calm (by rw [hX.e.hN]; exact hX.e.nd) (by rw [hX.e.hN]; exact of_decide_eq_true hNi) (by rw [hX.e.hN]; exact of_decide_eq_true hNj) hne lx ly (mdO_ok ha hX.e hca) (mdO_ok hb hX.e hcb) hp2.1.1.1.2 hp2.1.1.2 (oty_cons_self ..) (fun k hk => oty_cons_ne hk) (of_decide_eq_true hu) (sameOff_ok hso) (parB_ok hp bk lx ly) (swapsSole_plain rfl ..)
    · rw [if_neg hxy] at hp
      obtain ⟨hp, nb⟩ := and2 hp
      obtain ⟨hp, na⟩ := and2 hp
      obtain ⟨hx, hy⟩ := and2 hp
      refine sv_parT (Γ1 := (i, t) :: Γ) (leB_ok hl) hX.e.calm (by rw [hX.e.hN]; exact hX.e.nd) (by rw [hX.e.hN]; exact of_decide_eq_true hNi) (by rw [hX.e.hN]; exact of_decide_eq_true hNj) hne (by rw [hX.e.hS]; exact locB_ok hx) (by rw [hX.e.hS]; exact locB_ok hy) (hX.fn x) (hX.fn y) (mdO_ok ha hX.e hca) (mdO_ok hb hX.e hcb) na nb (oty_cons_self ..) (fun k hk => oty_cons_ne hk) (of_decide_eq_true hu) (sameOff_ok hso) (parN_ok fun z => hxy ?_) (swapsSole_plain rfl ..)
      rw [hX.e.hS] at z
      unfold lclB
      rw [z.1, z.2]
      rfl
  · cases h
end
def chkS (N : List Str) (sc : Scope) : S → Cs
  | .asg vs tg e => kAsg N sc vs tg e
  | .own i t e => kOwn N sc i t e
  | .app i e => kApp N sc "append" i e .v
  | .ext i e => kApp N sc "extend" i e .b
  | .put i k e => kPut N sc i k e
  | .app2 i k e => kApp2 N sc i k e
  | .puo i t k e => kPuo N sc i t k e
  | .lput i j e => kLput N sc i j e
  | .popT i k => kPopT N sc i k
  | .popL j i => kPopL N sc j i
  | .par i j t u a b => fun Γ => kPar N sc i j t u (chk N Γ a) (chk N Γ b) Γ
  | .exp e => kExp N sc e
  | .ret e => kRet N sc e
  | .reo e => kReo N sc e
  | .rev i => kRev N sc i
  | .retN => kRetN
  | .rai c => kRai sc c
  | .tryk c _ i j b => kTry N sc c i j (chkS N sc b)
  | .ite c a b => kIte N sc c (chkS N sc a) (chkS N sc b)
  | .fr vs tg it b => kFor N sc vs tg it (chkS N sc b)
  | .whl _ c b => kWhl N sc c (chkS N sc b)
  | .brk => fun Γ Γn o st => match st with
    | .inl (.Break _) => leB Γ o.l
    | _ => false
  | .cnt => fun Γ Γn o st => match st with
    | .inl (.Continue _) => leB Γ o.l
    | _ => false
  | .pas => fun Γ Γn o st => match st with
    | .inl (.Pass _) => leB Γ Γn
    | _ => false
  | .nil => fun Γ Γn o st => match st with
    | .inr [] => leB Γ Γn
    | _ => false
  | .seq Γ1 a b => fun Γ Γn o st => match st with
    | .inr (x :: xs) => chkS N sc a Γ Γ1 o (.inl x) && chkS N sc b Γ1 Γn o (.inr xs)
    | _ => false
  | .wk Γ1 b => fun Γ Γn o st => match st with
    | .inr xs => leB Γ Γ1 && chkS N sc b Γ1 Γn o (.inr xs)
    | _ => false
def SOk (kn : Kn) : S → Prop
  | .asg _ _ e => TOk kn e
  | .own _ _ e => TOk kn e
  | .par _ _ _ _ a b => TOk kn a ∧ TOk kn b
  | .app _ e => TOk kn e
  | .ext _ e => TOk kn e
  | .put _ k e => TOk kn k ∧ TOk kn e
  | .app2 _ k e => TOk kn k ∧ TOk kn e
  | .puo _ _ k e => TOk kn k ∧ TOk kn e
  | .lput _ j e => TOk kn j ∧ TOk kn e
  | .popT _ k => TOk kn k
  | .exp e => TOk kn e
  | .ret e => TOk kn e
  | .reo e => TOk kn e
  | .rai c => kn.XK c
  | .tryk c tb _ _ b => kn.MK c tb ∧ SOk kn b
  | .ite c a b => TOk kn c ∧ SOk kn a ∧ SOk kn b
  | .fr _ _ it b => TOk kn it ∧ SOk kn b
  | .whl _ c b => TOk kn c ∧ SOk kn b
  | .seq _ a b => SOk kn a ∧ SOk kn b
  | .wk _ b => SOk kn b
  | _ => True
theorem soundS {N : List Str} {kk : Nat} {kn : Kn} {sc : Scope} : ∀ s : S, SOk kn s → SndS N kk kn sc (chkS N sc s) (dS s)
  | .asg _ _ e, h => s_asg h
  | .own _ _ e, h => s_own h
  | .app _ e, h => s_app h
  | .ext _ e, h => s_ext h
  | .put _ k e, h => s_put h.1 h.2
  | .app2 _ k e, h => s_app2 h.1 h.2
  | .puo _ _ k e, h => s_puo h.1 h.2
  | .lput _ j e, h => s_lput h.1 h.2
  | .popT _ k, h => s_popT h
  | .popL _ _, _ => s_popL
  | .par _ _ _ _ a b, h => s_par h.1 h.2
  | .exp e, h => s_exp h
  | .ret e, h => s_ret h
  | .reo e, h => s_reo h
  | .rev _, _ => s_rev
  | .retN, _ => s_retN
  | .rai c, h => s_rai h
  | .tryk c tb i j b, h => s_try h.1 (soundS b h.2)
  | .ite c a b, h => s_ite h.1 (soundS a h.2.1) (soundS b h.2.2)
  | .fr _ _ it b, h => s_for h.1 (soundS b h.2)
  | .whl _ c b, h => s_whl h.1 (soundS b h.2)
  | .brk, _ => by
    intro X B W hX Γ Γn o st h
    unfold chkS at h
    split at h
    · exact sv_brk (leB_ok h)
    · cases h
  | .cnt, _ => by
    intro X B W hX Γ Γn o st h
    unfold chkS at h
    split at h
    · exact sv_cnt (leB_ok h)
    · cases h
  | .pas, _ => by
    intro X B W hX Γ Γn o st h
    unfold chkS at h
    split at h
    · exact sv_pass (leB_ok h)
    · cases h
  | .nil, _ => by
    intro X B W hX Γ Γn o st h
    unfold chkS at h
    split at h
    · exact svs_nil (leB_ok h)
    · cases h
  | .seq Γ1 a b, hs => by
    intro X B W hX Γ Γn o st h
    unfold chkS at h
    split at h
    · obtain ⟨h1, h2⟩ := and2 h
      exact svs_cons (soundS a hs.1 X B W hX Γ Γ1 o _ h1) (soundS b hs.2 X B W hX Γ1 Γn o _ h2)
    · cases h
  | .wk Γ1 b, hs => by
    intro X B W hX Γ Γn o st h
    unfold chkS at h
    split at h
    · obtain ⟨h1, h2⟩ := and2 h
      exact svs_pre (leB_ok h1) (soundS b hs X B W hX Γ1 Γn o _ h2)
    · cases h

/-! ### defs -/
def enter (n : Nat) (ds : List D) : En := ds.map some ++ List.replicate (n - ds.length) none
def leave (t : OT) : Out → R D
  | .rt d => .ok d
  | .nx _ => if t = .fz then .ok .non else .stuck
  | .ex c _ => .exc c
  | _ => .stuck
def runS (n : Nat) (t : OT) (b : S) (ds : List D) : R D := leave t (dS b (enter n ds))
theorem enter_get {n : Nat} {ds : List D} {i : Nat} {d : D} (h : (enter n ds)[i]? = some (some d)) : ds[i]? = some d := by
  unfold enter at h
  by_cases q : i < ds.length
  · rw [List.getElem?_append_left (by simpa using q), List.getElem?_map] at h
    cases z : ds[i]? with
    | none => rw [z] at h; cases h
    | some y => rw [z] at h; cases h; rfl
  · rw [List.getElem?_append_right (by simpa using q)] at h
    rw [List.getElem?_replicate] at h
    split at h <;> cases h
theorem start_get {N : List Str} {vs : List V} {i : Nat} {v : V} (h : vs[i]? = some v) : (L2.start N vs)[i]? = some (some v) := by
  unfold L2.start
  have q := (List.getElem?_eq_some_iff.mp h).1
  rw [List.getElem?_append_left (by simpa using q), List.getElem?_map, h]
  rfl
theorem rel_start {K : Frag} {N : List Str} {vs : List V} {ds : List D} {G H : Hp} (e : Same G H) (r : RDs K G vs ds) : Rel K ⟨H, G⟩ [] (enter N.length ds) G (L2.start N vs) H := by
  refine ⟨?_, ⟨fun _ => [], ⟨fun i d q => ?_, fun _ => List.nodup_nil, fun _ _ _ m => (by cases m), fun _ _ m => (by cases m)⟩, fun _ _ m => (by cases m)⟩, .refl _, .refl _, e, fun a h1 _ => h1⟩
  · unfold enter L2.start
    rw [List.length_append, List.length_append, List.length_map, List.length_map, List.length_replicate, List.length_replicate, r.length]
  · obtain ⟨v, ev, rd⟩ := r.get (enter_get q)
    exact ⟨v, start_get ev, .fz rd⟩
/-- what stands in the written part, for all defs -/
structure Wld where
  P : Program
  w : World
  K : Frag
  mg : Str → Option Value
  base : Heap
def Wld.FK (M : Wld) (kk : Nat) : FKt := fun x n t k φ => k ≤ kk ∧ Fok M.P M.w M.K M.mg M.base x n t k φ
def Wld.GK (M : Wld) : Str → D → Prop := fun x d => ∃ u v, M.mg x = some u ∧ RelV v u ∧ ∀ G, RD M.K G v d
def Wld.XK (M : Wld) : Str → Prop := fun c => PySem.W.excIn M.K (He.ga M.K c) He.veBase "ValueError.__new__" = true ∧ M.mg c = some (.ref (He.ga M.K c)) ∧ PySem.W.keepIn M.K (.ref (He.ga M.K c)) = true ∧ PySem.W.subIn M.K (.ref (He.ga M.K c)) (.type "BaseException") = some true ∧ PySem.W.typeIn M.K (.ref (He.ga M.K c)) = some (.type "type")
def Wld.MK (M : Wld) : Str → List (Str × Bool) → Prop := fun c tb => M.mg c = some (clsV M.K c) ∧ ∀ d b, tb.lookup d = some b → PySem.W.exmOne M.K (clsV M.K d) (clsV M.K c) = some b
def Wld.kn (M : Wld) (kk : Nat) : Kn := ⟨M.FK kk, M.GK, M.XK, M.MK, IsTb M.K M.mg⟩
theorem fn_ok {M : Wld} {x qual : Str} {params : Arguments} {body : List Stmt} {scope : Scope} {f : Addr} {fd : FuncData} {N ps : List Str} {k : Nat} {t : OT} {b : S} (hBL : ∀ x ∈ BL, M.mg x = none)
    (F : FunD M.K x qual params body scope [] [] f fd) (Sc : FnScope N ps scope) (hok : SOk (M.kn k) b) (hc : chkS N scope b [] [] { t := t } (.inr body) = true) :
    FnOk M.P M.w M.K M.mg M.base (L2.CX M.P M.w) (k + 1) f fd ps (spD M.K ps.length t (runS N.length t b)) := by
  refine F.ok Sc (fun vs H Q E h => ?_) (fun cdv A outer s H vs Q E hr h => ?_)
  · obtain ⟨ds, G, _, r, hl, _⟩ := h
    rw [r.length, hl]
  · obtain ⟨ds, G, e, r, hl, h⟩ := h
    let X := cxOf (L2.CX M.P M.w) M.P M.w M.K M.mg M.base N qual scope f cdv A outer s H E
    have hX : CokS N k (M.kn k) X scope (fun cls d _ H' => E cls d H') :=
      ⟨⟨rfl, rfl, rfl, Sc.nd, hr, takes_of rfl rfl rfl rfl, hBL, fun _ _ _ _ _ q => q, fun _ _ q => q, fun _ _ q => q⟩, passes_of rfl, fun _ => rfl, Sc.kind, fun c q => ⟨q.1, q.2.1, q.2.2.1, raises_own q.2.2.2.1 q.2.2.2.2⟩, fun _ _ q => q, rfl, rfl, rfl⟩
    refine ⟨_, soundS b hok X ⟨H, G⟩ _ hX [] [] { t := t } (.inr body) hc, enter N.length ds, G, rel_start e r, ?_⟩
    unfold runS at h
    cases q : dS b (enter N.length ds) with
    | rt d => rw [q] at h; exact h
    | nx s' =>
      rw [q] at h
      unfold leave at h
      by_cases ht : t = .fz
      · rw [if_pos ht] at h
        exact fun σ' G' H' g rl => h .non G' H' (rel_grow0 rl) (by rw [ht]; exact .fz .non)
      · rw [if_neg ht] at h; exact h.elim
    | bk s' => rw [q] at h; exact h.elim
    | ct s' => rw [q] at h; exact h.elim
    | ex c s' => rw [q] at h; exact fun σ' G' H' g rl => h G' H' (rel_grow0 rl)
    | stuck => rw [q] at h; exact h.elim
end Hr

end
section
/-! HrN: a def of the text, the law's end -/
namespace Hr
open PySem PySem.Spec L2
theorem fok_of {M : Wld} {x : Str} {params : Arguments} {body : List Stmt} {scope : Scope} {fd : FuncData} {N ps : List Str} {k : Nat} {t : OT} {b : S} (hBL : ∀ x ∈ BL, M.mg x = none) (g : M.mg x = some (.ref (He.ga M.K x)))
    (F : FunD M.K x x params body scope [] [] (He.ga M.K x) fd) (Sc : FnScope N ps scope)
    (hb : ∀ (kV doc pm : Value) (an : Option Addr) (cdv ct : Value) (us : List Value), us.length = ps.length → bindArgs (PySem.W.fnOf x x params body scope .none kV doc pm an cdv ct) ⟨us, []⟩ = pure (ps.zip us))
    (hok : SOk (M.kn k) b) (hc : chkS N scope b [] [] { t := t } (.inr body) = true) : Fok M.P M.w M.K M.mg M.base x ps.length t (k + 1) (runS N.length t b) :=
  ⟨g, F.kp, fd, ps, F.bindsN hb, rfl, fn_ok hBL F Sc hok hc⟩
theorem gk_int {M : Wld} {x : Str} {i : Int} (h : ∃ t, M.mg x = some (.int i t)) : M.GK x (.int i) := by
  obtain ⟨t, h⟩ := h
  exact ⟨_, .int i, h, ⟨t, rfl⟩, fun _ => .int i⟩
theorem gk_str {M : Wld} {x z : Str} (h : ∃ t, M.mg x = some (.str z t)) (h1 : PyData.strOk z = true) (h2 : z.length ≤ sizeLine) : M.GK x (.str z) := by
  obtain ⟨t, h⟩ := h
  exact ⟨_, .str z, h, ⟨t, rfl⟩, fun _ => .str z h1 h2⟩
theorem law_end {K : Frag} {φ : List D → R D} {ns : List Int} {H : Hp} {a : Addr} (hl : ns.length ≤ 63) (hS : SqL K H a (ns.map V.int)) (h : φ [.arr (ns.map D.int)] = .ok (.bl true)) : spD K 1 .fz φ [.ref a] H (fun v _ => v = .bl true) fun _ _ _ => False := by
  have rds : ∀ ns : List Int, RDs K H (ns.map V.int) (ns.map D.int) := by
    intro ns
    induction ns with
    | nil => exact .nil
    | cons n ns ih => exact .cons (.int n) ih
  refine ⟨[.arr (ns.map D.int)], H, .refl _, .cons (.arr hS (by rw [List.length_map]; have := sizeLine_eq; omega) (rds ns)) .nil, rfl, ?_⟩
  rw [h]
  intro v G' H' g n
  obtain ⟨fq, ow, _, _⟩ := n
  cases ow with
  | fz r => exact r.bl_inv
end Hr

end
section
/-! HrQ: the head's facts, with own checks: what isinstance and except tell of exceptions; constant tuples -/
namespace Hr
open PySem PySem.Spec L2
structure FX where
  excs : List Str
  isa : List (Str × List (Str × Bool))
  exm : List (Str × List (Str × Bool))
  tup : List (Str × List D)
def cval (K : Frag) (c : Str) : Value := if c = "ValueError" then .type "ValueError" else clsV K c
def excCB (K : Frag) (C : Addr) : Bool :=
  He.eqO (PySem.W.findIn K (.ref C) "__getattribute__") (some (some (.builtin "BaseException.__getattribute__"))) && (He.eqO (PySem.W.findIn K (.ref C) "__getattr__") (some none) &&
  (decide (PySem.W.subIn K (.ref C) (.type "BaseException") = some true) && (PySem.W.hasDictIn K C && (He.eqO (PySem.W.findIn K (.ref C) "__class__") (some (some (.builtin "object.__class__"))) &&
  (He.eqO (PySem.W.specialIn K (.builtin "object.__class__") "__get__") (some (some (.builtin "getset_descriptor.__get__"))) && (decide (PySem.W.takesIn K (.builtin "object.__class__") = some true) && decide (PySem.W.mroIn K C (.type "object") = some true)))))))
theorem excCB_ok {K : Frag} {C : Addr} (h : excCB K C = true) : ExcC K C := by
  unfold excCB at h
  obtain ⟨h1, h⟩ := and2 h
  obtain ⟨h2, h⟩ := and2 h
  obtain ⟨h3, h⟩ := and2 h
  obtain ⟨h4, h⟩ := and2 h
  obtain ⟨h5, h⟩ := and2 h
  obtain ⟨h6, h⟩ := and2 h
  obtain ⟨h7, h8⟩ := and2 h
  exact ⟨He.eqO_ok h1, He.eqO_ok h2, of_decide_eq_true h3, h4, He.eqO_ok h5, He.eqO_ok h6, of_decide_eq_true h7, of_decide_eq_true h8⟩
/-- plain constants -/
def conV : D → Value → Bool
  | .non, .none => true
  | .bl b, .bool c => b == c
  | .int i, .int j _ => decide (i = j)
  | .str x, .str y _ => decide (x = y) && (PyData.strOk x && decide (x.length ≤ sizeLine))
  | _, _ => false
def conVs : List D → List Value → Bool
  | [], [] => true
  | d :: ds, v :: vs => conV d v && conVs ds vs
  | _, _ => false
def tupB (K : Frag) (x : Str) (ds : List D) : Bool := match PySem.W.nsIn K mainGlobals x with
  | some (some (.ref a)) => (match K.lookup a with
    | some ⟨.type c, none, .seq its n, sl⟩ => decide (c = "tuple") && decide (its.size ≤ sizeLine) && conVs ds its.toList
    | _ => false)
  | _ => false
def FX.ok (f : FX) (K : Frag) : Bool :=
  (f.excs.all fun d => excCB K (He.ga K d)) && ((f.isa.all fun p => p.2.all fun q => f.excs.contains q.1 && decide (PySem.W.kitOne K (clsV K q.1) (cval K p.1) = some q.2)) &&
  ((f.exm.all fun p => p.2.all fun q => decide (PySem.W.exmOne K (clsV K q.1) (clsV K p.1) = some q.2)) && (f.tup.all fun p => tupB K p.1 p.2)))
abbrev AlX : Type := He.AlD × Bool
def obsX (fa : List He.Fa) (fn : List He.DefD) (f : FX) (K : Frag) : AlX := (He.obsD fa fn K, f.ok K)
def SaysX (fa : List He.Fa) (fn : List He.DefD) (f : FX) (K : Frag) : Prop := obsX fa fn f K = (He.valD fn, true)
def obsXG (n : Nat) (fa : List He.Fa) (fn : List He.DefD) (f : FX) (g : Addr → Option Obj) : AlX := obsX fa fn f (He.frG g (He.asD g n))
def hookX (n : Nat) (fa : List He.Fa) (fn : List He.DefD) (f : FX) : PySem.W.Hook where
  α := AlX
  obs := fun s => obsXG n fa fn f s.heap.get?
  val := fun _ => (He.valD fn, true)
  says := fun _ h => ∃ K : Frag, K.In h ∧ SaysX fa fn f K
  of := fun _ _ e => ⟨_, He.frG_in, e⟩
  keeps := fun _ _ _ ⟨K, hK, c⟩ k => ⟨K, PySem.W.Frag.In.keeps hK k, c⟩
theorem obsXG_eq {n : Nat} {fa : List He.Fa} {fn : List He.DefD} {f : FX} {g : Addr → Option Obj} {s : Shared} (h : ∀ a, g a = s.heap.get? a) : obsXG n fa fn f g = (hookX n fa fn f).obs s := by
  have e : g = s.heap.get? := funext h
  rw [e] <;> rfl
section
variable {fa : List He.Fa} {fn : List He.DefD} {f : FX} {K : Frag}
theorem SaysX.d (c : SaysX fa fn f K) : He.SaysD fa fn K := congrArg (fun z : AlX => z.1) c
theorem SaysX.x (c : SaysX fa fn f K) : f.ok K = true := congrArg (fun z : AlX => z.2) c
theorem lookup_mem {α : Type} : ∀ {l : List (Str × α)} {x : Str} {a : α}, l.lookup x = some a → (x, a) ∈ l
  | [], _, _, h => by cases h
  | (y, b) :: l, x, a, h => by
    rw [List.lookup_cons] at h
    by_cases q : x = y
    · subst q
      rw [beq_self_eq_true] at h
      cases h
      exact List.mem_cons_self ..
    · rw [beq_eq_false_iff_ne.mpr q] at h
      exact List.mem_cons_of_mem _ (lookup_mem h)
theorem SaysX.isTb (c : SaysX fa fn f K) {mg : Str → Option Value} {x : Str} {tb : List (Str × Bool)} (hm : (x, tb) ∈ f.isa) (h : mg x = some (clsV K x) ∧ x ≠ "ValueError" ∨ (mg x = none ∧ x = "ValueError")) : IsTb K mg x tb := by
  have o := c.x
  unfold FX.ok at o
  obtain ⟨o1, o⟩ := and2 o
  obtain ⟨o2, o⟩ := and2 o
  have ot := List.all_eq_true.mp o2 _ hm
  have key : ∀ d r, tb.lookup d = some r → ExcC K (He.ga K d) ∧ PySem.W.kitOne K (clsV K d) (cval K x) = some r := fun d r hl => by
    obtain ⟨k1, k2⟩ := and2 (List.all_eq_true.mp ot _ (lookup_mem hl))
    exact ⟨excCB_ok (List.all_eq_true.mp o1 d (List.contains_iff_mem.mp k1)), of_decide_eq_true k2⟩
  rcases h with ⟨h, hn⟩ | ⟨h, hx⟩
  · refine ⟨.ref (He.ga K x), clsV K x, .inl h, rfl, fun u r => r, fun d r hl => ?_⟩
    have := key d r hl
    unfold cval at this
    rw [if_neg hn] at this
    exact this
  · subst hx
    refine ⟨.ty "ValueError", .type "ValueError", .inr ⟨h, boot_ValueError, by decide⟩, rfl, fun u r => r, fun d r hl => ?_⟩
    have := key d r hl
    unfold cval at this
    rw [if_pos rfl] at this
    exact this
theorem SaysX.exm (c : SaysX fa fn f K) {x : Str} {tb : List (Str × Bool)} (hm : (x, tb) ∈ f.exm) : ∀ d b, tb.lookup d = some b → PySem.W.exmOne K (clsV K d) (clsV K x) = some b := fun d b hl => by
  have o := c.x
  unfold FX.ok at o
  obtain ⟨_, o⟩ := and2 o
  obtain ⟨_, o⟩ := and2 o
  obtain ⟨o3, _⟩ := and2 o
  exact of_decide_eq_true (List.all_eq_true.mp (List.all_eq_true.mp o3 _ hm) _ (lookup_mem hl))
end
theorem conV_ok {d : D} {u : Value} (h : conV d u = true) : ∃ v : V, RelV v u ∧ ∀ (K : Frag) (G : Hp), RD K G v d := by
  cases d with
  | non => cases u with
    | none => exact ⟨.non, rfl, fun _ _ => .non⟩
    | _ => cases h
  | bl b => cases u with
    | bool c => have : b = c := by simpa [conV] using h
                subst this; exact ⟨.bl b, rfl, fun _ _ => .bl b⟩
    | _ => cases h
  | int i => cases u with
    | int j t => have : i = j := of_decide_eq_true h
                 subst this; exact ⟨.int i, ⟨t, rfl⟩, fun _ _ => .int i⟩
    | _ => cases h
  | str x => cases u with
    | str y t =>
      obtain ⟨h1, h2⟩ := and2 (show (decide (x = y) && (PyData.strOk x && decide (x.length ≤ sizeLine))) = true from h)
      obtain ⟨h3, h4⟩ := and2 h2
      have : x = y := of_decide_eq_true h1
      subst this; exact ⟨.str x, ⟨t, rfl⟩, fun _ _ => .str x h3 (of_decide_eq_true h4)⟩
    | _ => cases h
  | _ => cases u <;> cases h
theorem conVs_ok : ∀ {ds : List D} {us : List Value}, conVs ds us = true → ∃ vs : List V, Vals vs us ∧ ∀ (K : Frag) (G : Hp), RDs K G vs ds
  | [], [], _ => ⟨[], .nil, fun _ _ => .nil⟩
  | [], _ :: _, h => by cases h
  | _ :: _, [], h => by cases h
  | d :: ds, u :: us, h => by
    obtain ⟨h1, h2⟩ := and2 (show (conV d u && conVs ds us) = true from h)
    obtain ⟨v, r, k⟩ := conV_ok h1
    obtain ⟨vs, rs, ks⟩ := conVs_ok h2
    exact ⟨v :: vs, .cons r rs, fun K G => .cons (k K G) (ks K G)⟩
theorem gk_tup {M : Wld} {h : Heap} {fa : List He.Fa} {fn : List He.DefD} {f : FX} (X : M.K.In h) (G : h.Ns mainGlobals M.mg) (c : SaysX fa fn f M.K) {x : Str} {ds : List D} (i : Nat) (hi : f.tup[i]? = some (x, ds)) : M.GK x (.kt ds) := by
  have o := c.x
  unfold FX.ok at o
  obtain ⟨_, o⟩ := and2 o
  obtain ⟨_, o⟩ := and2 o
  obtain ⟨_, o4⟩ := and2 o
  have o := List.all_eq_true.mp o4 _ (List.mem_of_getElem? hi)
  have o : tupB M.K x ds = true := o
  unfold tupB at o
  split at o
  · rename_i a hns
    split at o
    · rename_i c its n sl hlk
      obtain ⟨o, o3⟩ := and2 o
      obtain ⟨o1, o2⟩ := and2 o
      have e1 := of_decide_eq_true o1
      have e2 := of_decide_eq_true o2
      subst e1
      obtain ⟨vs, rv, rd⟩ := conVs_ok o3
      exact ⟨.ref a, .ref a, PySem.W.mg_of X G hns, rfl, fun G' => .kt (.inr ⟨_, its, n, hlk, rfl, rfl, e2, rv⟩) (by rw [rv.length]; simpa using e2) (rd _ _)⟩
    · cases o
  · cases o
/-- a law, exceptions by L2.CX -/
theorem walk_ofH {l : PySem.W.OpenLaw} {n k : Nat} {q : Program} {loose : List Str} {XP : (Str → Option Value) → Heap → Prop} {YP : World → Heap → Prop} {d : DefRec} {x : Str}
    (hn : l.most = some n) (hn2 : n ≤ sizeLine) (hdf : d.params.defaults = []) (hr : Room k callerA)
    (F : ∀ (w : World) (mg : Str → Option Value) (fa : Addr) (h : Heap), YP w h → h.Ns mainGlobals mg → mg d.name = some (.ref fa) →
      ∃ (K : PySem.W.Frag) (fd : FuncData) (sp : Sp), K.In h ∧ (∀ (s : Shared) (u : Value), BindsTo s fd ⟨[u], []⟩ [(x, u)]) ∧
        (∀ (H : Hp) (a : Addr) (ns : List Int), ns.length ≤ n → Only H → SqL K H a (ns.map V.int) → sp [.ref a] H (fun v _ => v = .bl true) fun _ _ _ => False) ∧
        ∀ base : Heap, K.In base → base.Ns mainGlobals mg → FnOk l.prog w K mg base (L2.CX l.prog w) k fa fd [x] sp) :
    PySem.W.WalkO q loose XP YP l.row.toRowW d [] (fun f vs => PySem.call f vs) := by
  refine Att.attach_call hn hdf fun w s₀ s₁ mg mb fa o pm cd doc a vs ns G Y ho hd hcd hmg hobj hints hlen hg => ?_
  obtain ⟨K, fd, sp, KX, hb, hsp, hF⟩ := F w mg fa _ Y G.T.g hmg
  exact law_call KX G.T.g G.T.b G.T.builtins G.T.nolimit hg hobj hints (Nat.le_trans hlen hn2) hr hF hb (fun H hO hS => hsp H a ns hlen hO hS) fun H e s' ⟨_, _, _, _, _, _, _, _, _, _, _, _, z⟩ => z
theorem fok_law {P : Program} {w : World} {K : Frag} {mg : Str → Option Value} {base : Heap} {k : Nat} {φ : List D → R D} (F : Fok P w K mg base "law" 1 .fz k φ) : ∃ fd ps, Binds K fd ps [] ∧ ps.length = 1 ∧ FnOk P w K mg base (L2.CX P w) k (He.ga K "law") fd ps (spD K 1 .fz φ) := F.ok
def isFree (x : Str) : He.Fa → Bool
  | .free y => decide (y = x)
  | _ => false
theorem free_in {fa : List He.Fa} {x : Str} (h : (BL.all fun x => fa.any (isFree x)) = true) (hx : x ∈ BL) : He.Fa.free x ∈ fa := by
  obtain ⟨f, hf, e⟩ := List.any_eq_true.mp (List.all_eq_true.mp h x hx)
  cases f with
  | free y => rw [← of_decide_eq_true (show decide (y = x) = true from e)]; exact hf
  | _ => cases e
end Hr

end
section
/-! HrR: reckoning with terms: rules for simp, in applied form -/
namespace Hr
open PySem PySem.Spec L2
def Out.thn (r : Out) (k : En → Out) : Out := match r with
  | .nx s' => k s'
  | r => r
def iteS (k : Bool) (f g : En → Out) (s : En) : Out := if k then f s else g s
def iteV {α : Type} (k : Bool) (f g : En → R α) (s : En) : R α := if k then f s else g s
@[simp] theorem thn_nx (s : En) (k : En → Out) : (Out.nx s).thn k = k s := rfl
@[simp] theorem thn_rt (d : D) (k : En → Out) : (Out.rt d).thn k = .rt d := rfl
@[simp] theorem thn_ex (c : Str) (s : En) (k : En → Out) : (Out.ex c s).thn k = .ex c s := rfl
@[simp] theorem thn_bk (s : En) (k : En → Out) : (Out.bk s).thn k = .bk s := rfl
@[simp] theorem thn_ct (s : En) (k : En → Out) : (Out.ct s).thn k = .ct s := rfl
@[simp] theorem thn_stuck (k : En → Out) : (Out.stuck).thn k = .stuck := rfl
@[simp] theorem iteS_t (f g : En → Out) (s : En) : iteS true f g s = f s := rfl
@[simp] theorem iteS_f (f g : En → Out) (s : En) : iteS false f g s = g s := rfl
@[simp] theorem iteV_t {α : Type} (f g : En → R α) (s : En) : iteV true f g s = f s := rfl
@[simp] theorem iteV_f {α : Type} (f g : En → R α) (s : En) : iteV false f g s = g s := rfl
@[simp] theorem go_ok {α : Type} (a : α) (s : En) (k : α → Out) : (R.ok a).go s k = k a := rfl
@[simp] theorem go_exc {α : Type} (c : Str) (s : En) (k : α → Out) : (R.exc c : R α).go s k = .ex c s := rfl
@[simp] theorem go_stuck {α : Type} (s : En) (k : α → Out) : (R.stuck : R α).go s k = .stuck := rfl
@[simp] theorem outO_some (s : En) : outO (some s) = .nx s := rfl
@[simp] theorem nox_ok {α : Type} (a : α) : (R.ok a).nox = .ok a := rfl
/-! statements -/
@[simp] theorem dS_asg (vs : List Nat) (tg : TG) (e : T) (s : En) : dS (.asg vs tg e) s = ((den e).v s).go s fun d => outO ((tgd tg).f d s) := rfl
@[simp] theorem dS_own (i : Nat) (t : OT) (e : T) (s : En) : dS (.own i t e) s = ((den e).v s).go s fun d => outO (ftName i d s) := rfl
@[simp] theorem dS_app (i : Nat) (e : T) (s : En) : dS (.app i e) s = optO (lstAt s i) fun ds => ((den e).v s).go s fun d => if ds.length < sizeLine then .nx (s.set i (some (.lst (ds ++ [d])))) else .stuck := rfl
@[simp] theorem dS_ext (i : Nat) (e : T) (s : En) : dS (.ext i e) s = sExt i (den e).v s := rfl
@[simp] theorem dS_put (i : Nat) (k e : T) (s : En) : dS (.put i k e) s = ((den e).v s).go s fun d => optO (dicAt s i) fun q => ((den k).v s).go s fun dk => optO (keyOf q.1 dk) fun k => if q.2.2.length < sizeLine then .nx (s.set i (some (.dic q.1 (putD q.2.1 q.2.2 k d).1 (putD q.2.1 q.2.2 k d).2))) else .stuck := rfl
@[simp] theorem dS_app2 (i : Nat) (k e : T) (s : En) : dS (.app2 i k e) s = sApp2 i (den k).v (den e).v s := rfl
@[simp] theorem dS_puo (i : Nat) (t : OT) (k e : T) (s : En) : dS (.puo i t k e) s = sPuo i (den k).v (den e).v s := rfl
@[simp] theorem dS_lput (i : Nat) (j e : T) (s : En) : dS (.lput i j e) s = sLput i (den j).v (den e).v s := rfl
@[simp] theorem dS_popT (i : Nat) (k : T) (s : En) : dS (.popT i k) s = sPopT i (den k).v s := rfl
@[simp] theorem dS_par (i j : Nat) (t u : OT) (a b : T) (s : En) : dS (.par i j t u a b) s = ((den a).v s).go s fun d => ((den b).v s).go s fun e => outO ((ftName i d s).bind (ftName j e)) := rfl
@[simp] theorem dS_popL (j i : Nat) (s : En) : dS (.popL j i) s = sPopL j i s := rfl
@[simp] theorem v_sset (a : T) (s : En) : (den (.sset a)).v s = (den a).v s >>= dSortSet := rfl
@[simp] theorem v_dict (a : T) (s : En) : (den (.dict a)).v s = (den a).v s >>= dDict := rfl
@[simp] theorem v_get2 (a b c : T) (s : En) : (den (.get2 a b c)).v s = (den a).v s >>= fun x => isDic x >>= fun q => (den b).v s >>= fun k => (den c).v s >>= fun z => R.of ((keyOf false k).map fun kk => (lookK q.1 q.2 kk).getD z) := rfl
@[simp] theorem v_revl (a : T) (s : En) : (den (.revl a)).v s = (den a).v s >>= dRevL := rfl
@[simp] theorem v_revt (a : T) (s : En) : (den (.revt a)).v s = (den a).v s >>= dRevT := rfl
@[simp] theorem v_spl (a b : T) (s : En) : (den (.spl a b)).v s = (den a).v s >>= fun x => isStr x >>= fun x => (den b).v s >>= fun y => dSplit (.str x) y := rfl
@[simp] theorem v_fst (c : Str) (a b : T) (s : En) : (den (.fst c a b)).v s = eFst c (den a).v (den b).v s := rfl
@[simp] theorem v_qrep (c y z : Str) (a : T) (s : En) : (den (.qrep c y z a)).v s = eRep c y z (den a).v s := rfl
@[simp] theorem v_dnew2 (s : En) : (den .dnew2).v s = .ok (.dic false [] []) := rfl
@[simp] theorem v_sub2 (i : Nat) (k : T) (s : En) : (den (.sub2 i k)).v s = eSub2 i (den k).v s := rfl
@[simp] theorem dS_exp (e : T) (s : En) : dS (.exp e) s = ((den e).v s).go s fun _ => .nx s := rfl
@[simp] theorem dS_ret (e : T) (s : En) : dS (.ret e) s = ((den e).v s).go s .rt := rfl
@[simp] theorem dS_reo (e : T) (s : En) : dS (.reo e) s = ((den e).v s).go s .rt := rfl
@[simp] theorem dS_rev (i : Nat) (s : En) : dS (.rev i) s = (eVar i s).go s .rt := rfl
@[simp] theorem dS_retN (s : En) : dS .retN s = .rt .non := rfl
@[simp] theorem dS_rai (c : Str) (s : En) : dS (.rai c) s = .ex c s := rfl
@[simp] theorem dS_ite (c : T) (a b : S) (s : En) : dS (.ite c a b) s = ((den c).t s).go s fun k => iteS k (dS a) (dS b) s := rfl
@[simp] theorem dS_fr (vs : List Nat) (tg : TG) (it : T) (b : S) (s : En) : dS (.fr vs tg it b) s = ((den it).l s).go s fun ds => forD (tgd tg).f (dS b) ds s := rfl
@[simp] theorem dS_whl (n : Nat) (c : T) (b : S) (s : En) : dS (.whl n c b) s = whlD (den c).t (dS b) n s := rfl
@[simp] theorem dS_tryk (c : Str) (tb : List (Str × Bool)) (i j : Nat) (b : S) (s : En) : dS (.tryk c tb i j b) s = sTry tb i j (dS b) s := rfl
@[simp] theorem dS_brk (s : En) : dS .brk s = .bk s := rfl
@[simp] theorem dS_cnt (s : En) : dS .cnt s = .ct s := rfl
@[simp] theorem dS_pas (s : En) : dS .pas s = .nx s := rfl
@[simp] theorem dS_nil (s : En) : dS .nil s = .nx s := rfl
@[simp] theorem dS_seq (Γ : Ow) (a b : S) (s : En) : dS (.seq Γ a b) s = (dS a s).thn (dS b) := rfl
@[simp] theorem dS_wk (Γ : Ow) (b : S) (s : En) : dS (.wk Γ b) s = dS b s := rfl
/-! targets -/
@[simp] theorem tg_nm (i : Nat) (d : D) (s : En) : (tgd (.nm i)).f d s = ftName i d s := rfl
@[simp] theorem tg_tp (l : TG) (ds : List D) (s : En) : (tgd (.tp l)).f (.tup ds) s = (tgd l).l ds s := rfl
@[simp] theorem tg_nil (s : En) : (tgd .nil).l [] s = some s := rfl
@[simp] theorem tg_cons (a l : TG) (d : D) (ds : List D) (s : En) : (tgd (.cons a l)).l (d :: ds) s = ((tgd a).f d s).bind fun s' => (tgd l).l ds s' := rfl
/-! values -/
@[simp] theorem v_var (i : Nat) (s : En) : (den (.var i)).v s = eVar i s := rfl
@[simp] theorem v_con (d : D) (s : En) : (den (.con d)).v s = .ok d := rfl
@[simp] theorem v_glo (x : Str) (d : D) (s : En) : (den (.glo x d)).v s = .ok d := rfl
@[simp] theorem v_neg (a : T) (s : En) : (den (.neg a)).v s = (den a).v s >>= dNeg := rfl
@[simp] theorem v_bin (op : Operator) (a b : T) (s : En) : (den (.bin op a b)).v s = (den a).v s >>= fun x => (den b).v s >>= fun y => dBin op x y := rfl
@[simp] theorem v_cmp (op : CmpOp) (a b : T) (s : En) : (den (.cmp op a b)).v s = ((den a).v s >>= fun x => (den b).v s >>= fun y => dCmp op x y) >>= fun b => .ok (.bl b) := rfl
@[simp] theorem v_chn (o1 o2 : CmpOp) (a b c : T) (s : En) : (den (.chn o1 o2 a b c)).v s = (den (.chn o1 o2 a b c)).t s >>= fun b => .ok (.bl b) := rfl
@[simp] theorem v_and (a b : T) (s : En) : (den (.and a b)).v s = (den a).v s >>= fun x => dTru x >>= fun k => iteV k (den b).v (fun _ => .ok x) s := rfl
@[simp] theorem v_or (a b : T) (s : En) : (den (.or a b)).v s = (den a).v s >>= fun x => dTru x >>= fun k => iteV k (fun _ => .ok x) (den b).v s := rfl
@[simp] theorem v_not (a : T) (s : En) : (den (.not a)).v s = (den a).v s >>= fun x => dTru x >>= fun k => .ok (.bl (!k)) := rfl
@[simp] theorem v_one (a : T) (s : En) : (den (.one a)).v s = (den a).v s := rfl
@[simp] theorem v_ife (c a b : T) (s : En) : (den (.ife c a b)).v s = (den c).t s >>= fun k => iteV k (den a).v (den b).v s := rfl
@[simp] theorem v_tup (l : T) (s : En) : (den (.tup l)).v s = (den l).l s >>= fun ds => if ds.length ≤ sizeLine then .ok (.tup ds) else .stuck := rfl
@[simp] theorem v_lst (l : T) (s : En) : (den (.lst l)).v s = (den l).l s >>= fun ds => if ds.length ≤ sizeLine then .ok (.lst ds) else .stuck := rfl
@[simp] theorem v_sub (a b : T) (s : En) : (den (.sub a b)).v s = (den a).v s >>= fun x => (den b).v s >>= fun y => dSub2 x y := rfl
@[simp] theorem v_sli (a lo hi : T) (s : En) : (den (.sli a lo hi)).v s = (den a).v s >>= fun x => (den lo).p s >>= fun l => (den hi).p s >>= fun h => dSl x l h := rfl
@[simp] theorem v_call (x : Str) (n : Nat) (t : OT) (k : Nat) (φ : List D → R D) (l : T) (s : En) : (den (.call x n t k φ l)).v s = (den l).l s >>= fun ds => if ds.length = n then φ ds else .stuck := rfl
@[simp] theorem v_bi (b : BI) (l : T) (s : En) : (den (.bi b l)).v s = (den l).l s >>= biF b := rfl
@[simp] theorem v_isi (t : String) (a : T) (s : En) : (den (.isi t a)).v s = (den a).v s >>= fun d => isTy t d >>= fun b => .ok (.bl b) := rfl
@[simp] theorem v_ise (c : Str) (tb : List (Str × Bool)) (a : T) (s : En) : (den (.ise c tb a)).v s = (den a).v s >>= fun d => isX tb d >>= fun b => .ok (.bl b) := rfl
@[simp] theorem v_idx (a b : T) (s : En) : (den (.idx a b)).v s = (den a).v s >>= fun x => asL x >>= fun ds => (den b).v s >>= fun y => dIndex ds y := rfl
@[simp] theorem v_cnt (a b : T) (s : En) : (den (.cnt a b)).v s = (den a).v s >>= fun x => asL x >>= fun ds => (den b).v s >>= fun y => dCount ds y := rfl
@[simp] theorem v_join (a b : T) (s : En) : (den (.join a b)).v s = (den a).v s >>= fun x => isStr x >>= fun a => (den b).v s >>= fun y => dJoin (.str a) y := rfl
@[simp] theorem v_lc (own : List (Str × Nat)) (elt : T) (tg : TG) (it ifs : T) (s : En) : (den (.lc own elt tg it ifs)).v s = (den it).l s >>= fun ds => lcA (lcT (tgd tg).f (den ifs).t (den elt).v (wipeE s (own.map (·.2)))) ds [] >>= fun out => .ok (.lst out) := rfl
@[simp] theorem v_lset (a : T) (s : En) : (den (.lset a)).v s = (den a).v s >>= dLenSet := rfl
@[simp] theorem v_dnew (t : Bool) (s : En) : (den (.dnew t)).v s = .ok (.dic t [] []) := rfl
/-! tests -/
@[simp] theorem t_cmp (op : CmpOp) (a b : T) (s : En) : (den (.cmp op a b)).t s = (den a).v s >>= fun x => (den b).v s >>= fun y => dCmp op x y := rfl
@[simp] theorem t_chn (o1 o2 : CmpOp) (a b c : T) (s : En) : (den (.chn o1 o2 a b c)).t s = (den a).v s >>= fun x => (den b).v s >>= fun y => dCmp o1 x y >>= fun k => if k then (den c).v s >>= fun z => dCmp o2 y z else .ok false := rfl
@[simp] theorem t_and (a b : T) (s : En) : (den (.and a b)).t s = (den a).t s >>= fun k => iteV k (den b).t (fun _ => .ok false) s := rfl
@[simp] theorem t_or (a b : T) (s : En) : (den (.or a b)).t s = (den a).t s >>= fun k => iteV k (fun _ => .ok true) (den b).t s := rfl
@[simp] theorem t_not (a : T) (s : En) : (den (.not a)).t s = (den a).t s >>= fun k => .ok (!k) := rfl
@[simp] theorem t_one (a : T) (s : En) : (den (.one a)).t s = (den a).t s := rfl
@[simp] theorem t_no (s : En) : (den .no).t s = .ok true := rfl
@[simp] theorem t_var (i : Nat) (s : En) : (den (.var i)).t s = eVar i s >>= dTru := rfl
@[simp] theorem t_con (d : D) (s : En) : (den (.con d)).t s = dTru d := rfl
@[simp] theorem t_sub (a b : T) (s : En) : (den (.sub a b)).t s = (den (.sub a b)).v s >>= dTru := rfl
@[simp] theorem t_call (x : Str) (n : Nat) (t : OT) (k : Nat) (φ : List D → R D) (l : T) (s : En) : (den (.call x n t k φ l)).t s = (den (.call x n t k φ l)).v s >>= dTru := rfl
@[simp] theorem t_bi (b : BI) (l : T) (s : En) : (den (.bi b l)).t s = (den (.bi b l)).v s >>= dTru := rfl
@[simp] theorem t_isi (c : String) (a : T) (s : En) : (den (.isi c a)).t s = (den (.isi c a)).v s >>= dTru := rfl
@[simp] theorem t_ise (c : Str) (tb : List (Str × Bool)) (a : T) (s : En) : (den (.ise c tb a)).t s = (den (.ise c tb a)).v s >>= dTru := rfl
@[simp] theorem t_ife (c a b : T) (s : En) : (den (.ife c a b)).t s = (den (.ife c a b)).v s >>= dTru := rfl
/-! lists, what is walked -/
@[simp] theorem l_nil (s : En) : (den .nil).l s = .ok [] := rfl
@[simp] theorem l_cons (a l : T) (s : En) : (den (.cons a l)).l s = (den a).v s >>= fun x => (den l).l s >>= fun xs => .ok (x :: xs) := rfl
@[simp] theorem l_itI (a : T) (s : En) : (den (.itI a)).l s = (den a).v s >>= dItems := rfl
@[simp] theorem l_itS (a : T) (s : En) : (den (.itS a)).l s = (den a).v s >>= fun d => isStr d >>= fun x => .ok (chrs x) := rfl
@[simp] theorem l_itR1 (l : T) (s : En) : (den (.itR1 l)).l s = eRng1 (den l).l s := rfl
@[simp] theorem l_itR2 (l : T) (s : En) : (den (.itR2 l)).l s = eRng2 (den l).l s := rfl
@[simp] theorem l_itE (l : T) (s : En) : (den (.itE l)).l s = eEnum (den l).l s := rfl
@[simp] theorem l_itZ (l : T) (s : En) : (den (.itZ l)).l s = eZip (den l).l s := rfl
@[simp] theorem l_itEZ (l : T) (s : En) : (den (.itEZ l)).l s = eEnumZ (den l).l s := rfl
def rngA : List D → R (List D) := fun ds => match ds with
  | [.int j] => if -(2 ^ 62) ≤ j ∧ j ≤ 16777216 then .ok (rngD 0 j.toNat) else .stuck
  | _ => .stuck
def rngB : List D → R (List D) := fun ds => match ds with
  | [.int i, .int j] => if (-(2 ^ 62) ≤ i ∧ i < 2 ^ 62 ∧ -(2 ^ 62) ≤ j ∧ j < 2 ^ 62) ∧ j - i ≤ 16777216 then .ok (rngD i (j - i).toNat) else .stuck
  | _ => .stuck
def enumA : List D → R (List D) := fun ds => match ds with
  | [d] => dItems d >>= fun xs => .ok (enumL xs)
  | _ => .stuck
def zipA : List D → R (List D) := fun ds => match ds with
  | [d, e] => dItems d >>= fun xs => dItems e >>= fun ys => .ok (zipL xs ys)
  | _ => .stuck
/-! parts of slices -/
@[simp] theorem p_no (s : En) : (den .no).p s = .ok none := rfl
@[simp] theorem p_var (i : Nat) (s : En) : (den (.var i)).p s = ePart (some (den (.var i)).v) s := rfl
@[simp] theorem p_con (d : D) (s : En) : (den (.con d)).p s = ePart (some (den (.con d)).v) s := rfl
@[simp] theorem p_bin (op : Operator) (a b : T) (s : En) : (den (.bin op a b)).p s = ePart (some (den (.bin op a b)).v) s := rfl
@[simp] theorem p_call (x : Str) (n : Nat) (t : OT) (k : Nat) (φ : List D → R D) (l : T) (s : En) : (den (.call x n t k φ l)).p s = ePart (some (den (.call x n t k φ l)).v) s := rfl
@[simp] theorem p_neg (a : T) (s : En) : (den (.neg a)).p s = ePart (some (den (.neg a)).v) s := rfl
theorem part_of {f : En → R D} {s : En} {i : Int} (h : f s = .ok (.int i)) : ePart (some f) s = .ok (some i) := by show (f s >>= fun d => match d with | .int i => .ok (some i) | _ => .stuck) = _; rw [h]; rfl
def asP : D → R (Option Int)
  | .int i => .ok (some i)
  | _ => .stuck
@[simp] theorem part_s (f : En → R D) (s : En) : ePart (some f) s = f s >>= asP := rfl
@[simp] theorem asP_i (i : Int) : asP (.int i) = .ok (some i) := rfl
@[simp] theorem rng1_eq (fs : En → R (List D)) (s : En) : eRng1 fs s = fs s >>= rngA := rfl
@[simp] theorem rng2_eq (fs : En → R (List D)) (s : En) : eRng2 fs s = fs s >>= rngB := rfl
theorem rngA_nat {n : Nat} (h : n ≤ 16777216) : rngA [.int (n : Int)] = .ok ((List.range n).map fun i : Nat => .int (i : Int)) := by
  show (if _ then _ else _) = _
  rw [if_pos (by omega)]
  unfold rngD
  simp
@[simp] theorem enum_eq (fs : En → R (List D)) (s : En) : eEnum fs s = fs s >>= enumA := rfl
@[simp] theorem enumA_l (ds : List D) : enumA [.lst ds] = .ok (enumL ds) := rfl
@[simp] theorem enumA_t (ds : List D) : enumA [.tup ds] = .ok (enumL ds) := rfl
def enumZA (ds : List D) : R (List D) := match ds with
  | [d, e] => dItems d >>= fun xs => dItems e >>= fun ys => .ok (enumL (zipL xs ys))
  | _ => .stuck
@[simp] theorem enumZ_eq (fs : En → R (List D)) (s : En) : eEnumZ fs s = fs s >>= enumZA := rfl
@[simp] theorem enumZA_tt (ds es : List D) : enumZA [.tup ds, .tup es] = .ok (enumL (zipL ds es)) := rfl
@[simp] theorem zip_eq (fs : En → R (List D)) (s : En) : eZip fs s = fs s >>= zipA := rfl
@[simp] theorem zipA_tt (ds es : List D) : zipA [.tup ds, .tup es] = .ok (zipL ds es) := rfl
theorem enumL_map {α : Type} (f : α → D) (xs : List α) : enumL (xs.map f) = xs.zipIdx.map fun p => .tup [.int (p.2 : Nat), f p.1] := by
  unfold enumL
  rw [List.zipIdx_map, List.map_map]
  rfl
theorem zipL_map {α β : Type} (f : α → D) (g : β → D) (xs : List α) (ys : List β) : zipL (xs.map f) (ys.map g) = (xs.zip ys).map fun p => .tup [f p.1, g p.2] := by
  unfold zipL
  rw [List.zipWith_map, List.zip, List.map_zipWith]
/-! operations -/
@[simp] theorem b_add (a b : D) : dBin .Add a b = dAdd a b := rfl
@[simp] theorem b_sub (a b : D) : dBin .Sub a b = dSub a b := rfl
@[simp] theorem b_mul (a b : D) : dBin .Mult a b = dMul a b := rfl
@[simp] theorem b_mod (a b : D) : dBin .Mod a b = dMod a b := rfl
@[simp] theorem b_div (a b : D) : dBin .FloorDiv a b = dDiv a b := rfl
@[simp] theorem b_pow (a b : D) : dBin .Pow a b = dPow a b := rfl
@[simp] theorem add_i (i j : Int) : dAdd (.int i) (.int j) = .ok (.int (i + j)) := rfl
@[simp] theorem sub_i (i j : Int) : dSub (.int i) (.int j) = .ok (.int (i - j)) := rfl
@[simp] theorem neg_i (i : Int) : dNeg (.int i) = .ok (.int (-i)) := rfl
theorem mul_r {i j : Int} (h : nrw j = true) : dMul (.int i) (.int j) = .ok (.int (i * j)) := by show (if (nrw i || nrw j) = true then _ else _) = _; rw [h, Bool.or_true]; rfl
theorem mul_l {i j : Int} (h : nrw i = true) : dMul (.int i) (.int j) = .ok (.int (i * j)) := by show (if (nrw i || nrw j) = true then _ else _) = _; rw [h, Bool.true_or]; rfl
theorem mod_i {i j : Int} (h : 0 < j) : dMod (.int i) (.int j) = .ok (.int (i % j)) := by show (if 0 < j then _ else _) = _; rw [if_pos h]
theorem div_i {i j : Int} (h : 0 < j) (h2 : j < 1073741824) : dDiv (.int i) (.int j) = .ok (.int (i / j)) := by show (if 0 < j ∧ j < 1073741824 then _ else _) = _; rw [if_pos ⟨h, h2⟩]
@[simp] theorem c_lt (a b : D) : dCmp .Lt a b = dLt a b := rfl
@[simp] theorem c_le (a b : D) : dCmp .LtE a b = dLe a b := rfl
@[simp] theorem c_gt (a b : D) : dCmp .Gt a b = dLt b a := rfl
@[simp] theorem c_ge (a b : D) : dCmp .GtE a b = dLe b a := rfl
@[simp] theorem c_eq (a b : D) : dCmp .Eq a b = dEq a b := rfl
@[simp] theorem c_ne (a b : D) : dCmp .NotEq a b = dEq a b >>= fun c => .ok (!c) := rfl
@[simp] theorem c_in (a b : D) : dCmp .In a b = dIn a b := rfl
@[simp] theorem c_ni (a b : D) : dCmp .NotIn a b = dIn a b >>= fun c => .ok (!c) := rfl
@[simp] theorem c_is (a b : D) : dCmp .Is a b = dIs a b := rfl
@[simp] theorem c_isn (a b : D) : dCmp .IsNot a b = dIs a b >>= fun c => .ok (!c) := rfl
@[simp] theorem lt_i (i j : Int) : dLt (.int i) (.int j) = .ok (decide (i < j)) := rfl
@[simp] theorem le_i (i j : Int) : dLe (.int i) (.int j) = .ok (decide (i ≤ j)) := rfl
@[simp] theorem is_n (x : D) : dIs x .non = .ok x.isN := rfl
@[simp] theorem tru_b (b : Bool) : dTru (.bl b) = .ok b := rfl
@[simp] theorem len_t (ds : List D) : biF .len [.tup ds] = .ok (.int ds.length) := rfl
@[simp] theorem len_l (ds : List D) : biF .len [.lst ds] = .ok (.int ds.length) := rfl
@[simp] theorem len_a (ds : List D) : biF .len [.arr ds] = .ok (.int ds.length) := rfl
@[simp] theorem tuple_l (ds : List D) : biF .tuple [.lst ds] = .ok (.tup ds) := rfl
@[simp] theorem items_l (ds : List D) : dItems (.lst ds) = .ok ds := rfl
@[simp] theorem items_t (ds : List D) : dItems (.tup ds) = .ok ds := rfl
@[simp] theorem asL_l (ds : List D) : asL (.lst ds) = .ok ds := rfl
theorem atI_nat {α : Type} {xs : List α} {k : Nat} {x : α} (h : xs[k]? = some x) : L2.atI xs (k : Int) = some x := by
  have hk := (List.getElem?_eq_some_iff.mp h).1
  unfold L2.atI L2.ixN
  rw [if_pos (by omega), if_pos (by omega)]
  simpa using h
theorem sub_l {xs : List D} {k : Nat} {x : D} (h : xs[k]? = some x) : dSub2 (.lst xs) (.int (k : Int)) = .ok x := by
  show R.of (L2.atI xs _) = _
  rw [atI_nat h]; rfl
theorem sub_t {xs : List D} {k : Nat} {x : D} (h : xs[k]? = some x) : dSub2 (.tup xs) (.int (k : Int)) = .ok x := by
  show R.of (L2.atI xs _) = _
  rw [atI_nat h]; rfl
theorem sub_a {xs : List D} {k : Nat} {x : D} (h : xs[k]? = some x) : dSub2 (.arr xs) (.int (k : Int)) = .ok x := by
  show R.of (L2.atI xs _) = _
  rw [atI_nat h]; rfl
@[simp] theorem sub_t0 (a : D) (xs : List D) : dSub2 (.tup (a :: xs)) (.int 0) = .ok a := sub_t (k := 0) rfl
@[simp] theorem sub_t1 (a b : D) (xs : List D) : dSub2 (.tup (a :: b :: xs)) (.int 1) = .ok b := sub_t (k := 1) rfl
@[simp] theorem sub_t2 (a b c : D) (xs : List D) : dSub2 (.tup (a :: b :: c :: xs)) (.int 2) = .ok c := sub_t (k := 2) rfl
@[simp] theorem sub_t3 (a b c d : D) (xs : List D) : dSub2 (.tup (a :: b :: c :: d :: xs)) (.int 3) = .ok d := sub_t (k := 3) rfl
@[simp] theorem sub_l0 (a : D) (xs : List D) : dSub2 (.lst (a :: xs)) (.int 0) = .ok a := sub_l (k := 0) rfl
@[simp] theorem sub_l1 (a b : D) (xs : List D) : dSub2 (.lst (a :: b :: xs)) (.int 1) = .ok b := sub_l (k := 1) rfl
@[simp] theorem sub_l2 (a b c : D) (xs : List D) : dSub2 (.lst (a :: b :: c :: xs)) (.int 2) = .ok c := sub_l (k := 2) rfl
@[simp] theorem sub_l3 (a b c d : D) (xs : List D) : dSub2 (.lst (a :: b :: c :: d :: xs)) (.int 3) = .ok d := sub_l (k := 3) rfl
@[simp] theorem sub_l4 (a b c d e : D) (xs : List D) : dSub2 (.lst (a :: b :: c :: d :: e :: xs)) (.int 4) = .ok e := sub_l (k := 4) rfl
@[simp] theorem sub_l5 (a b c d e f : D) (xs : List D) : dSub2 (.lst (a :: b :: c :: d :: e :: f :: xs)) (.int 5) = .ok f := sub_l (k := 5) rfl
@[simp] theorem sub_l6 (a b c d e f g : D) (xs : List D) : dSub2 (.lst (a :: b :: c :: d :: e :: f :: g :: xs)) (.int 6) = .ok g := sub_l (k := 6) rfl
@[simp] theorem eq_s (x y : Str) : dEq (.str x) (.str y) = .ok (x == y) := rfl
@[simp] theorem eq_i (i j : Int) : dEq (.int i) (.int j) = .ok (i == j) := rfl
@[simp] theorem eq_is (i : Int) (y : Str) : dEq (.int i) (.str y) = .ok false := rfl
@[simp] theorem eq_si (i : Int) (y : Str) : dEq (.str y) (.int i) = .ok false := rfl
@[simp] theorem eq_ni (i : Int) : dEq .non (.int i) = .ok false := rfl
@[simp] theorem isN_n : D.isN .non = true := rfl
@[simp] theorem isN_i (i : Int) : (D.int i).isN = false := rfl
@[simp] theorem isN_s (x : Str) : (D.str x).isN = false := rfl
@[simp] theorem isN_t (ds : List D) : (D.tup ds).isN = false := rfl
@[simp] theorem isN_l (ds : List D) : (D.lst ds).isN = false := rfl
@[simp] theorem isN_x (c : Str) : (D.exc c).isN = false := rfl
@[simp] theorem enter_eq (n : Nat) (ds : List D) : enter n ds = ds.map some ++ List.replicate (n - ds.length) none := rfl
@[simp] theorem leave_rt (t : OT) (d : D) : leave t (.rt d) = .ok d := rfl
@[simp] theorem leave_ex (t : OT) (c : Str) (s : En) : leave t (.ex c s) = .exc c := rfl
@[simp] theorem leave_nx (s : En) : leave .fz (.nx s) = .ok .non := rfl
/-! loops -/
/-- a comprehension whose turns are known -/
theorem lcA_eq {t : D → R (Option D)} {g : D → Option D} : ∀ {ds acc : List D}, (∀ d ∈ ds, t d = .ok (g d)) → lcA t ds acc = .ok (acc ++ ds.filterMap g)
  | [], acc, _ => by simp [lcA]
  | d :: ds, acc, h => by
    have e : lcA t (d :: ds) acc = t d >>= fun o => lcA t ds (acc ++ o.toList) := rfl
    rw [e, h d (List.mem_cons_self ..), R.ok_bind, lcA_eq fun x m => h x (List.mem_cons_of_mem _ m)]
    cases q : g d with
    | none => simp [q]
    | some y => simp [q]
theorem lcA_map {t : D → R (Option D)} {g : D → D} {ds : List D} (h : ∀ d ∈ ds, t d = .ok (some (g d))) : lcA t ds [] = .ok (ds.map g) := by
  rw [lcA_eq (g := fun d => some (g d)) h]
  simp
/-- turns over a list that is known by its parts -/
theorem lcA_over {α : Type} {f : α → D} {t : D → R (Option D)} {g : α → Option D} {xs : List α} (h : ∀ a ∈ xs, t (f a) = .ok (g a)) : lcA t (xs.map f) [] = .ok (xs.filterMap g) := by
  have key : ∀ (xs : List α) (acc : List D), (∀ a ∈ xs, t (f a) = .ok (g a)) → lcA t (xs.map f) acc = .ok (acc ++ xs.filterMap g) := by
    intro xs
    induction xs with
    | nil => intro acc _; simp [lcA]
    | cons a xs ih =>
      intro acc h
      have e : lcA t (f a :: xs.map f) acc = t (f a) >>= fun o => lcA t (xs.map f) (acc ++ o.toList) := rfl
      rw [List.map_cons, e, h a (List.mem_cons_self ..), R.ok_bind, ih _ fun x m => h x (List.mem_cons_of_mem _ m)]
      cases q : g a with
      | none => simp [q]
      | some y => simp [q]
  have := key xs [] h
  simpa using this
/-- a for whose turns go on, with an invariant -/
theorem forD_inv {α : Type} {f : α → D} {ft : FT} {body : En → Out} (I : List α → En → Prop) {xs : List α} {s : En} (h0 : I [] s)
    (step : ∀ (pre : List α) (a : α) (post : List α) (s : En), xs = pre ++ a :: post → I pre s → ∃ s1 s2, ft (f a) s = some s1 ∧ (body s1 = .nx s2 ∨ body s1 = .ct s2) ∧ I (pre ++ [a]) s2) :
    ∃ s', forD ft body (xs.map f) s = .nx s' ∧ I xs s' := by
  have key : ∀ (post pre : List α) (s : En), xs = pre ++ post → I pre s → ∃ s', forD ft body (post.map f) s = .nx s' ∧ I xs s' := by
    intro post
    induction post with
    | nil =>
      intro pre s e i
      rw [List.append_nil] at e
      subst e
      exact ⟨s, rfl, i⟩
    | cons a post ih =>
      intro pre s e i
      obtain ⟨s1, s2, h1, h2, h3⟩ := step pre a post s e i
      obtain ⟨s', h4, h5⟩ := ih (pre ++ [a]) s2 (by rw [e, List.append_assoc]; rfl) h3
      refine ⟨s', ?_, h5⟩
      show (match ft (f a) s with | none => Out.stuck | some s1 => _) = _
      rw [h1]
      dsimp only
      rcases h2 with h2 | h2 <;> rw [h2] <;> exact h4
  exact key xs [] s rfl h0
/-- a comprehension whose turns give something of which P holds -/
theorem lcA_ex {α β : Type} {f : α → D} {e : β → D} {t : D → R (Option D)} {P : α → β → Prop} {xs : List α} (h : ∀ a ∈ xs, ∃ y, t (f a) = .ok (some (e y)) ∧ P a y) :
    ∃ ys : List β, lcA t (xs.map f) [] = .ok (ys.map e) ∧ ys.length = xs.length ∧ ∀ (i : Nat) (a : α) (y : β), xs[i]? = some a → ys[i]? = some y → P a y := by
  have key : ∀ (xs : List α) (acc : List D), (∀ a ∈ xs, ∃ y, t (f a) = .ok (some (e y)) ∧ P a y) → ∃ ys : List β, lcA t (xs.map f) acc = .ok (acc ++ ys.map e) ∧ ys.length = xs.length ∧ ∀ (i : Nat) (a : α) (y : β), xs[i]? = some a → ys[i]? = some y → P a y := by
    intro xs
    induction xs with
    | nil => intro acc _; exact ⟨[], by simp [lcA], rfl, fun i a y h => by simp at h⟩
    | cons a xs ih =>
      intro acc h
      obtain ⟨y, hy, hp⟩ := h a (List.mem_cons_self ..)
      obtain ⟨ys, h1, h2, h3⟩ := ih (acc ++ [e y]) fun x m => h x (List.mem_cons_of_mem _ m)
      refine ⟨y :: ys, ?_, by simp [h2], fun i a' y' e1 e2 => ?_⟩
      · have e1 : lcA t (f a :: xs.map f) acc = t (f a) >>= fun o => lcA t (xs.map f) (acc ++ o.toList) := rfl
        rw [List.map_cons, e1, hy, R.ok_bind]
        show lcA t (xs.map f) (acc ++ [e y]) = _
        rw [h1]
        simp
      · cases i with
        | zero =>
          simp at e1 e2
          subst e1 e2
          exact hp
        | succ i => exact h3 i a' y' (by simpa using e1) (by simpa using e2)
  have := key xs [] h
  simpa using this
/-- one turn of a for -/
def turnD (ft : FT) (body : En → Out) (d : D) (s : En) : Out := (outO (ft d s)).thn body
theorem forD_run {α : Type} {f : α → D} {ft : FT} {body : En → Out} {I : List α → En → Prop} {xs : List α} {s : En} (h0 : I [] s)
    (step : ∀ (pre : List α) (a : α) (post : List α) (s : En), xs = pre ++ a :: post → I pre s → ∃ s2, turnD ft body (f a) s = .nx s2 ∧ I (pre ++ [a]) s2) :
    ∃ s', forD ft body (xs.map f) s = .nx s' ∧ I xs s' :=
  forD_inv I h0 fun pre a post s e i => by
    obtain ⟨s2, h1, h2⟩ := step pre a post s e i
    unfold turnD at h1
    cases q : ft (f a) s with
    | none => rw [q] at h1; cases h1
    | some s1 => rw [q] at h1; exact ⟨s1, s2, rfl, .inl h1, h2⟩
end Hr

end
section
namespace Hd
open PySem PySem.Spec PyProof.Rows L2
def top (i : Nat) : Stmt := PySem.Challenge.pw_heldrows_k15_whole_kept_from.main.body.getD i (.Pass ⟨0, 0, 0, 0⟩)
abbrev s_is_whole : Stmt := top 3
def d_is_whole : He.DefD := ⟨("is_whole", none), "is_whole", "is_whole", defArgs s_is_whole, defBody s_is_whole, defScope s_is_whole, [], []⟩
abbrev s_is_plain : Stmt := top 4
def d_is_plain : He.DefD := ⟨("is_plain", none), "is_plain", "is_plain", defArgs s_is_plain, defBody s_is_plain, defScope s_is_plain, [], []⟩
abbrev s_kind_names : Stmt := top 5
def d_kind_names : He.DefD := ⟨("kind_names", none), "kind_names", "kind_names", defArgs s_kind_names, defBody s_kind_names, defScope s_kind_names, [], []⟩
abbrev s_fields_of : Stmt := top 6
def d_fields_of : He.DefD := ⟨("fields_of", none), "fields_of", "fields_of", defArgs s_fields_of, defBody s_fields_of, defScope s_fields_of, [], []⟩
abbrev s_link_fields : Stmt := top 7
def d_link_fields : He.DefD := ⟨("link_fields", none), "link_fields", "link_fields", defArgs s_link_fields, defBody s_link_fields, defScope s_link_fields, [], []⟩
abbrev s_is_text : Stmt := top 8
def d_is_text : He.DefD := ⟨("is_text", none), "is_text", "is_text", defArgs s_is_text, defBody s_is_text, defScope s_is_text, [], []⟩
abbrev s_is_plain_value : Stmt := top 9
def d_is_plain_value : He.DefD := ⟨("is_plain_value", none), "is_plain_value", "is_plain_value", defArgs s_is_plain_value, defBody s_is_plain_value, defScope s_is_plain_value, [], []⟩
abbrev s_is_store_value : Stmt := top 14
def d_is_store_value : He.DefD := ⟨("is_store_value", none), "is_store_value", "is_store_value", defArgs s_is_store_value, defBody s_is_store_value, defScope s_is_store_value, [], []⟩
abbrev s_are_values : Stmt := top 15
def d_are_values : He.DefD := ⟨("are_values", none), "are_values", "are_values", defArgs s_are_values, defBody s_are_values, defScope s_are_values, [], []⟩
abbrev s_is_row : Stmt := top 16
def d_is_row : He.DefD := ⟨("is_row", none), "is_row", "is_row", defArgs s_is_row, defBody s_is_row, defScope s_is_row, [], []⟩
abbrev s_is_shelf : Stmt := top 17
def d_is_shelf : He.DefD := ⟨("is_shelf", none), "is_shelf", "is_shelf", defArgs s_is_shelf, defBody s_is_shelf, defScope s_is_shelf, [], []⟩
abbrev s_is_store : Stmt := top 18
def d_is_store : He.DefD := ⟨("is_store", none), "is_store", "is_store", defArgs s_is_store, defBody s_is_store, defScope s_is_store, [], []⟩
abbrev s_shelf_of : Stmt := top 19
def d_shelf_of : He.DefD := ⟨("shelf_of", none), "shelf_of", "shelf_of", defArgs s_shelf_of, defBody s_shelf_of, defScope s_shelf_of, [], []⟩
abbrev s_next_key : Stmt := top 20
def d_next_key : He.DefD := ⟨("next_key", none), "next_key", "next_key", defArgs s_next_key, defBody s_next_key, defScope s_next_key, [], []⟩
abbrev s_keys_of : Stmt := top 21
def d_keys_of : He.DefD := ⟨("keys_of", none), "keys_of", "keys_of", defArgs s_keys_of, defBody s_keys_of, defScope s_keys_of, [], []⟩
abbrev s_row_in : Stmt := top 22
def d_row_in : He.DefD := ⟨("row_in", none), "row_in", "row_in", defArgs s_row_in, defBody s_row_in, defScope s_row_in, [], []⟩
abbrev s_all_lead : Stmt := top 23
def d_all_lead : He.DefD := ⟨("all_lead", none), "all_lead", "all_lead", defArgs s_all_lead, defBody s_all_lead, defScope s_all_lead, [], []⟩
abbrev s_row_counts : Stmt := top 25
def d_row_counts : He.DefD := ⟨("row_counts", none), "row_counts", "row_counts", defArgs s_row_counts, defBody s_row_counts, defScope s_row_counts, [], []⟩
abbrev s_goals_of : Stmt := top 26
def d_goals_of : He.DefD := ⟨("goals_of", none), "goals_of", "goals_of", defArgs s_goals_of, defBody s_goals_of, defScope s_goals_of, [], []⟩
abbrev s_rows_reached : Stmt := top 27
def d_rows_reached : He.DefD := ⟨("rows_reached", none), "rows_reached", "rows_reached", defArgs s_rows_reached, defBody s_rows_reached, defScope s_rows_reached, [], []⟩
abbrev s_kept_from : Stmt := top 28
def d_kept_from : He.DefD := ⟨("kept_from", none), "kept_from", "kept_from", defArgs s_kept_from, defBody s_kept_from, defScope s_kept_from, [], []⟩
abbrev s__law_cell : Stmt := top 30
def d__law_cell : He.DefD := ⟨("_law_cell", none), "_law_cell", "_law_cell", defArgs s__law_cell, defBody s__law_cell, defScope s__law_cell, [], []⟩
abbrev s__law_pick : Stmt := top 31
def d__law_pick : He.DefD := ⟨("_law_pick", none), "_law_pick", "_law_pick", defArgs s__law_pick, defBody s__law_pick, defScope s__law_pick, [], []⟩
abbrev s__law_sort : Stmt := top 32
def d__law_sort : He.DefD := ⟨("_law_sort", none), "_law_sort", "_law_sort", defArgs s__law_sort, defBody s__law_sort, defScope s__law_sort, [], []⟩
abbrev s__law_schema : Stmt := top 33
def d__law_schema : He.DefD := ⟨("_law_schema", none), "_law_schema", "_law_schema", defArgs s__law_schema, defBody s__law_schema, defScope s__law_schema, [], []⟩
abbrev s__law_counts : Stmt := top 34
def d__law_counts : He.DefD := ⟨("_law_counts", none), "_law_counts", "_law_counts", defArgs s__law_counts, defBody s__law_counts, defScope s__law_counts, [], []⟩
abbrev s__law_plain : Stmt := top 35
def d__law_plain : He.DefD := ⟨("_law_plain", none), "_law_plain", "_law_plain", defArgs s__law_plain, defBody s__law_plain, defScope s__law_plain, [], []⟩
abbrev s__law_value : Stmt := top 36
def d__law_value : He.DefD := ⟨("_law_value", none), "_law_value", "_law_value", defArgs s__law_value, defBody s__law_value, defScope s__law_value, [], []⟩
abbrev s__law_store : Stmt := top 37
def d__law_store : He.DefD := ⟨("_law_store", none), "_law_store", "_law_store", defArgs s__law_store, defBody s__law_store, defScope s__law_store, [], []⟩
abbrev s__law_goals : Stmt := top 38
def d__law_goals : He.DefD := ⟨("_law_goals", none), "_law_goals", "_law_goals", defArgs s__law_goals, defBody s__law_goals, defScope s__law_goals, [], []⟩
abbrev s__law_rows : Stmt := top 39
def d__law_rows : He.DefD := ⟨("_law_rows", none), "_law_rows", "_law_rows", defArgs s__law_rows, defBody s__law_rows, defScope s__law_rows, [], []⟩
abbrev s__law_reached : Stmt := top 40
def d__law_reached : He.DefD := ⟨("_law_reached", none), "_law_reached", "_law_reached", defArgs s__law_reached, defBody s__law_reached, defScope s__law_reached, [], []⟩
abbrev s_law : Stmt := top 41
def d_law : He.DefD := ⟨("law", none), "law", "law", defArgs s_law, defBody s_law, defScope s_law, [], []⟩
def fn : List He.DefD := ([d_is_whole, d_is_plain, d_kind_names, d_fields_of, d_link_fields, d_is_text, d_is_plain_value, d_is_store_value, d_are_values, d_is_row, d_is_shelf, d_is_store, d_shelf_of, d_next_key, d_keys_of, d_row_in, d_all_lead, d_row_counts, d_goals_of, d_rows_reached, d_kept_from, d__law_cell, d__law_pick, d__law_sort, d__law_schema, d__law_counts, d__law_plain, d__law_value, d__law_store, d__law_goals] : List He.DefD) ++ ([d__law_rows, d__law_reached, d_law] : List He.DefD)
def fa : List He.Fa := ([.int "LONGEST_TEXT" (8), .int "TOP" (9999), .glo "is_whole", .glo "is_plain", .glo "kind_names", .glo "fields_of", .glo "link_fields", .glo "is_text", .glo "is_plain_value", .glo "HeldError", .exc "HeldError", .glo "NoRow", .exc "NoRow", .glo "is_store_value", .glo "are_values", .glo "is_row", .glo "is_shelf", .glo "is_store", .glo "shelf_of", .glo "next_key", .glo "keys_of", .glo "row_in", .glo "all_lead", .glo "row_counts", .glo "goals_of", .glo "rows_reached", .glo "kept_from", .glo "_law_cell", .glo "_law_pick", .glo "_law_sort"] : List He.Fa) ++ ([.glo "_law_schema", .glo "_law_counts", .glo "_law_plain", .glo "_law_value", .glo "_law_store", .glo "_law_goals", .glo "_law_rows", .glo "_law_reached", .glo "law", .free "ValueError", .free "all", .free "any", .free "bool", .free "dict", .free "enumerate", .free "int", .free "isinstance", .free "len", .free "list", .free "max", .free "range", .free "set", .free "sorted", .free "str", .free "sum", .free "tuple", .free "zip"] : List He.Fa)
def names : List PySem.Str := (["LONGEST_TEXT", "TOP", "is_whole", "is_plain", "kind_names", "fields_of", "link_fields", "is_text", "is_plain_value", "HeldError", "NoRow", "is_store_value", "are_values", "is_row", "is_shelf", "is_store", "shelf_of", "next_key", "keys_of", "row_in", "all_lead", "row_counts", "goals_of", "rows_reached", "kept_from", "_law_cell", "_law_pick", "_law_sort", "_law_schema", "_law_counts"] : List PySem.Str) ++ (["_law_plain", "_law_value", "_law_store", "_law_goals", "_law_rows", "_law_reached"] : List PySem.Str)
abbrev R : PySem.W.OpenRow := PySem.W.OpenLaw.row PySem.Challenge.rw_heldrows_k15_whole_kept_from
abbrev fx_LONGEST_TEXT : Nat := 0
abbrev fx_TOP : Nat := 1
abbrev fx_is_whole : Nat := 2
abbrev fx_is_plain : Nat := 3
abbrev fx_kind_names : Nat := 4
abbrev fx_fields_of : Nat := 5
abbrev fx_link_fields : Nat := 6
abbrev fx_is_text : Nat := 7
abbrev fx_is_plain_value : Nat := 8
abbrev fx_HeldError : Nat := 9
abbrev fy_HeldError : Nat := 10
abbrev fx_NoRow : Nat := 11
abbrev fy_NoRow : Nat := 12
abbrev fx_is_store_value : Nat := 13
abbrev fx_are_values : Nat := 14
abbrev fx_is_row : Nat := 15
abbrev fx_is_shelf : Nat := 16
abbrev fx_is_store : Nat := 17
abbrev fx_shelf_of : Nat := 18
abbrev fx_next_key : Nat := 19
abbrev fx_keys_of : Nat := 20
abbrev fx_row_in : Nat := 21
abbrev fx_all_lead : Nat := 22
abbrev fx_row_counts : Nat := 23
abbrev fx_goals_of : Nat := 24
abbrev fx_rows_reached : Nat := 25
abbrev fx_kept_from : Nat := 26
abbrev fx__law_cell : Nat := 27
abbrev fx__law_pick : Nat := 28
abbrev fx__law_sort : Nat := 29
abbrev fx__law_schema : Nat := 30
abbrev fx__law_counts : Nat := 31
abbrev fx__law_plain : Nat := 32
abbrev fx__law_value : Nat := 33
abbrev fx__law_store : Nat := 34
abbrev fx__law_goals : Nat := 35
abbrev fx__law_rows : Nat := 36
abbrev fx__law_reached : Nat := 37
abbrev fx_law : Nat := 38
abbrev fx_ValueError : Nat := 39
abbrev fx_all : Nat := 40
abbrev fx_any : Nat := 41
abbrev fx_bool : Nat := 42
abbrev fx_dict : Nat := 43
abbrev fx_enumerate : Nat := 44
abbrev fx_int : Nat := 45
abbrev fx_isinstance : Nat := 46
abbrev fx_len : Nat := 47
abbrev fx_list : Nat := 48
abbrev fx_max : Nat := 49
abbrev fx_range : Nat := 50
abbrev fx_set : Nat := 51
abbrev fx_sorted : Nat := 52
abbrev fx_str : Nat := 53
abbrev fx_sum : Nat := 54
abbrev fx_tuple : Nat := 55
abbrev fx_zip : Nat := 56
abbrev ix_is_whole : Nat := 0
abbrev ix_is_plain : Nat := 1
abbrev ix_kind_names : Nat := 2
abbrev ix_fields_of : Nat := 3
abbrev ix_link_fields : Nat := 4
abbrev ix_is_text : Nat := 5
abbrev ix_is_plain_value : Nat := 6
abbrev ix_is_store_value : Nat := 7
abbrev ix_are_values : Nat := 8
abbrev ix_is_row : Nat := 9
abbrev ix_is_shelf : Nat := 10
abbrev ix_is_store : Nat := 11
abbrev ix_shelf_of : Nat := 12
abbrev ix_next_key : Nat := 13
abbrev ix_keys_of : Nat := 14
abbrev ix_row_in : Nat := 15
abbrev ix_all_lead : Nat := 16
abbrev ix_row_counts : Nat := 17
abbrev ix_goals_of : Nat := 18
abbrev ix_rows_reached : Nat := 19
abbrev ix_kept_from : Nat := 20
abbrev ix__law_cell : Nat := 21
abbrev ix__law_pick : Nat := 22
abbrev ix__law_sort : Nat := 23
abbrev ix__law_schema : Nat := 24
abbrev ix__law_counts : Nat := 25
abbrev ix__law_plain : Nat := 26
abbrev ix__law_value : Nat := 27
abbrev ix__law_store : Nat := 28
abbrev ix__law_goals : Nat := 29
abbrev ix__law_rows : Nat := 30
abbrev ix__law_reached : Nat := 31
abbrev ix_law : Nat := 32
def fx : Hr.FX := ⟨[], [], [], []⟩
abbrev hk : PySem.W.Hook := Hr.hookX 5 fa fn fx
def ob (s : PySem.W.SharedT) : Hr.AlX := Hr.obsXG 5 fa fn fx (HandSHeadRun.getT s)
theorem ob_eq (s : PySem.W.SharedT) : ob s = hk.obs s.abs := Hr.obsXG_eq (HandSHeadRun.getT_eq s)
theorem run (w : World) : HandSHeadRun.RunEq R (PySem.W.view R.prog [41]) hk ob 4000 names w := by
  intro os
  kernel_rfl
end Hd
namespace Wk
open PySem PySem.Spec L2 Hr Hd
def N__law_cell : List PySem.Str := ["script", "k"]
def ir__law_cell : S := (.seq [] (.ite (.cmp .Lt (.var 1) (.bi .len (.cons (.var 0) .nil)))
  (.seq [] (.ret (.sub (.var 0) (.var 1)))
  .nil)
  .nil)
  (.seq [] (.ite (.cmp .Eq (.var 0) (.lst .nil))
  (.seq [] (.ret (.con (.int (0))))
  .nil)
  .nil)
  (.seq [] (.ret (.bin .Add (.bin .Mult (.sub (.var 0) (.bin .Mod (.var 1) (.bi .len (.cons (.var 0) .nil)))) (.con (.int (31)))) (.var 1)))
  .nil)))
def φ__law_cell : List D → R D := runS 2 .fz ir__law_cell
theorem sc__law_cell : FnScope N__law_cell ["script", "k"] (defScope s__law_cell) := ⟨rfl, rfl, rfl, by decide +kernel, rfl, by decide +kernel, by decide +kernel⟩
theorem ck__law_cell : chkS N__law_cell (defScope s__law_cell) ir__law_cell [] [] { t := .fz } (.inr (defBody s__law_cell)) = true := by decide +kernel
def N__law_pick : List PySem.Str := ["script", "k", "many", "drawn"]
def ir__law_pick : S := (.seq [] (.asg [3] (.nm 3) (.bin .Mod (.bin .Mult (.bin .Add (.call "_law_cell" 2 .fz 1 φ__law_cell (.cons (.var 0) (.cons (.var 1) .nil))) (.bin .Mult (.con (.int (6151))) (.bin .Add (.var 1) (.con (.int (1)))))) (.con (.int (40692)))) (.con (.int (2147483399)))))
  (.seq [] (.ret (.bin .Mod (.bin .Mod (.bin .Add (.bin .Mult (.var 3) (.var 3)) (.bin .FloorDiv (.var 3) (.con (.int (31))))) (.con (.int (2147483629)))) (.var 2)))
  .nil))
def φ__law_pick : List D → R D := runS 4 .fz ir__law_pick
theorem sc__law_pick : FnScope N__law_pick ["script", "k", "many"] (defScope s__law_pick) := ⟨rfl, rfl, rfl, by decide +kernel, rfl, by decide +kernel, by decide +kernel⟩
theorem ck__law_pick : chkS N__law_pick (defScope s__law_pick) ir__law_pick [] [] { t := .fz } (.inr (defBody s__law_pick)) = true := by decide +kernel
def N__law_sort : List PySem.Str := ["script", "at", "names", "way", "may", "rule"]
def ir__law_sort : S := (.seq [] (.asg [3] (.nm 3) (.call "_law_pick" 3 .fz 2 φ__law_pick (.cons (.var 0) (.cons (.var 1) (.cons (.con (.int (7))) .nil)))))
  (.seq [] (.ite (.cmp .Lt (.var 3) (.con (.int (3))))
  (.seq [] (.ret (.sub (.lst (.cons (.con (.str "number")) (.cons (.con (.str "number")) (.cons (.con (.str "text")) .nil)))) (.var 3)))
  .nil)
  .nil)
  (.seq [] (.asg [4] (.nm 4) (.cmp .Gt (.call "_law_pick" 3 .fz 2 φ__law_pick (.cons (.var 0) (.cons (.bin .Add (.var 1) (.con (.int (1)))) (.cons (.con (.int (3))) .nil)))) (.con (.int (0)))))
  (.seq [] (.asg [5] (.nm 5) (.sub (.lst (.cons (.con (.str "bar")) (.cons (.con (.str "none")) (.cons (.con (.str "along")) .nil)))) (.call "_law_pick" 3 .fz 2 φ__law_pick (.cons (.var 0) (.cons (.bin .Add (.var 1) (.con (.int (2)))) (.cons (.con (.int (3))) .nil))))))
  (.seq [] (.ite (.and (.cmp .Eq (.var 5) (.con (.str "none"))) (.one (.not (.var 4))))
  (.seq [] (.asg [5] (.nm 5) (.con (.str "bar")))
  .nil)
  .nil)
  (.seq [] (.ret (.tup (.cons (.con (.str "link")) (.cons (.sub (.var 2) (.call "_law_pick" 3 .fz 2 φ__law_pick (.cons (.var 0) (.cons (.bin .Add (.var 1) (.con (.int (3)))) (.cons (.bi .len (.cons (.var 2) .nil)) .nil))))) (.cons (.var 4) (.cons (.var 5) .nil))))))
  .nil))))))
def φ__law_sort : List D → R D := runS 6 .fz ir__law_sort
theorem sc__law_sort : FnScope N__law_sort ["script", "at", "names"] (defScope s__law_sort) := ⟨rfl, rfl, rfl, by decide +kernel, rfl, by decide +kernel, by decide +kernel⟩
theorem ck__law_sort : chkS N__law_sort (defScope s__law_sort) ir__law_sort [] [] { t := .fz } (.inr (defBody s__law_sort)) = true := by decide +kernel
def N__law_schema : List PySem.Str := ["script", "at", "names", "kinds", "j", "name", "many", "fields", "k"]
def E__law_schema_0 : T := (.tup (.cons (.bin .Mult (.sub (.con (.str "rpsq")) (.var 8)) (.bin .Add (.con (.int (1))) (.var 4))) (.cons (.call "_law_sort" 3 .fz 3 φ__law_sort (.cons (.var 0) (.cons (.bin .Add (.bin .Add (.bin .Add (.var 1) (.con (.int (3)))) (.bin .Mult (.con (.int (20))) (.var 4))) (.bin .Mult (.con (.int (4))) (.var 8))) (.cons (.var 2) .nil)))) .nil)))
def L__law_schema_0 : S := (.seq [(3, .own .fz)] (.asg [6] (.nm 6) (.bin .Add (.con (.int (1))) (.call "_law_pick" 3 .fz 2 φ__law_pick (.cons (.var 0) (.cons (.bin .Add (.bin .Add (.var 1) (.con (.int (2)))) (.bin .Mult (.con (.int (20))) (.var 4))) (.cons (.con (.int (4))) .nil))))))
  (.seq [(3, .own .fz), (7, .own .fz)] (.own 7 (.own .fz) (.lc [("k", 8)] E__law_schema_0 (.nm 8) (.itR1 (.cons (.var 6) .nil)) .no))
  (.seq [(3, .own .fz), (7, .own .fz)] (.app 3 (.tup (.cons (.var 5) (.cons (.bi .tuple (.cons (.var 7) .nil)) .nil))))
  .nil)))
def ir__law_schema : S := (.seq [] (.asg [2] (.nm 2) (.sli (.sli (.lst (.cons (.con (.str "oak")) (.cons (.con (.str "a")) (.cons (.con (.str "zzzzzz")) (.cons (.con (.str "elm")) .nil))))) (.call "_law_pick" 3 .fz 2 φ__law_pick (.cons (.var 0) (.cons (.var 1) (.cons (.con (.int (2))) .nil)))) .no) .no (.bin .Add (.con (.int (1))) (.call "_law_pick" 3 .fz 2 φ__law_pick (.cons (.var 0) (.cons (.bin .Add (.var 1) (.con (.int (1)))) (.cons (.con (.int (3))) .nil)))))))
  (.seq [(3, .own .fz)] (.own 3 (.own .fz) (.lst .nil))
  (.seq [(3, .own .fz)] (.fr [4, 5] (.tp (.cons (.nm 4) (.cons (.nm 5) .nil))) (.itE (.cons (.var 2) .nil))
  L__law_schema_0)
  (.seq [(3, .own .fz), (7, .own .fz)] (.ret (.bi .tuple (.cons (.var 3) .nil)))
  .nil))))
def φ__law_schema : List D → R D := runS 9 .fz ir__law_schema
theorem sc__law_schema : FnScope N__law_schema ["script", "at"] (defScope s__law_schema) := ⟨rfl, rfl, rfl, by decide +kernel, rfl, by decide +kernel, by decide +kernel⟩
theorem ck__law_schema : chkS N__law_schema (defScope s__law_schema) ir__law_schema [] [] { t := .fz } (.inr (defBody s__law_schema)) = true := by decide +kernel
def N__law_counts : List PySem.Str := ["script", "at", "schema", "most", "counts", "again", "j", "kind", "name", "fields", "field", "sort"]
def L__law_counts_0 : S := (.seq [(4, .own .fz)] (.put 4 (.sub (.var 7) (.con (.int (0)))) (.call "_law_pick" 3 .fz 2 φ__law_pick (.cons (.var 0) (.cons (.bin .Add (.var 1) (.var 6)) (.cons (.bin .Add (.var 3) (.con (.int (1)))) .nil)))))
  .nil)
def L__law_counts_3 : S := (.seq [(4, .own .fz)] (.ite (.and (.cmp .Eq (.sub (.var 11) (.con (.int (0)))) (.con (.str "link"))) (.and (.not (.sub (.var 11) (.con (.int (2))))) (.one (.cmp .Eq (.sub (.var 4) (.sub (.var 11) (.con (.int (1))))) (.con (.int (0)))))))
  (.seq [(4, .own .fz)] (.put 4 (.var 8) (.con (.int (0))))
  .nil)
  .nil)
  .nil)
def L__law_counts_2 : S := (.seq [(4, .own .fz)] (.fr [10, 11] (.tp (.cons (.nm 10) (.cons (.nm 11) .nil))) (.itI (.var 9))
  L__law_counts_3)
  .nil)
def L__law_counts_1 : S := (.seq [(4, .own .fz)] (.fr [8, 9] (.tp (.cons (.nm 8) (.cons (.nm 9) .nil))) (.itI (.var 2))
  L__law_counts_2)
  .nil)
def ir__law_counts : S := (.seq [(4, .own .fz)] (.own 4 (.own .fz) (.dnew false))
  (.seq [(4, .own .fz)] (.fr [6, 7] (.tp (.cons (.nm 6) (.cons (.nm 7) .nil))) (.itE (.cons (.var 2) .nil))
  L__law_counts_0)
  (.seq [(4, .own .fz)] (.fr [5] (.nm 5) (.itR1 (.cons (.bi .len (.cons (.var 2) .nil)) .nil))
  L__law_counts_1)
  (.wk [] (.seq [(4, .own .fz)] (.ret (.var 4))
  .nil)))))
def φ__law_counts : List D → R D := runS 12 .fz ir__law_counts
theorem sc__law_counts : FnScope N__law_counts ["script", "at", "schema", "most"] (defScope s__law_counts) := ⟨rfl, rfl, rfl, by decide +kernel, rfl, by decide +kernel, by decide +kernel⟩
theorem ck__law_counts : chkS N__law_counts (defScope s__law_counts) ir__law_counts [] [] { t := .fz } (.inr (defBody s__law_counts)) = true := by decide +kernel
def N__law_plain : List PySem.Str := ["script", "at", "sort", "drawn", "signs", "k"]
def E__law_plain_0 : T := (.sub (.var 4) (.call "_law_pick" 3 .fz 2 φ__law_pick (.cons (.var 0) (.cons (.bin .Add (.var 1) (.var 5)) (.cons (.con (.int (31))) .nil)))))
def ir__law_plain : S := (.seq [] (.asg [3] (.nm 3) (.call "_law_pick" 3 .fz 2 φ__law_pick (.cons (.var 0) (.cons (.var 1) (.cons (.bin .Pow (.con (.int (10))) (.con (.int (6)))) .nil)))))
  (.seq [] (.ite (.cmp .Eq (.var 2) (.con (.str "number")))
  (.seq [] (.ret (.sub (.lst (.cons (.con (.int (0))) (.cons (.con (.int (1))) (.cons (.neg (.con (.int (1)))) (.cons (.con (.int (9999))) (.cons (.neg (.con (.int (9999)))) (.cons (.bin .Sub (.bin .Mod (.var 3) (.con (.int (19999)))) (.con (.int (9999)))) (.cons (.bin .Sub (.bin .Mod (.var 3) (.con (.int (20)))) (.con (.int (9)))) .nil)))))))) (.bin .Mod (.bin .FloorDiv (.var 3) (.con (.int (20000)))) (.con (.int (7))))))
  .nil)
  .nil)
  (.seq [] (.asg [4] (.nm 4) (.con (.str " !'#&,:;0123456789ABCXYZabcxyz~")))
  (.seq [] (.ret (.join (.con (.str "")) (.lc [("k", 5)] E__law_plain_0 (.nm 5) (.itR1 (.cons (.sub (.lst (.cons (.con (.int (0))) (.cons (.con (.int (1))) (.cons (.con (.int (2))) (.cons (.con (.int (3))) (.cons (.con (.int (8))) .nil)))))) (.bin .Mod (.var 3) (.con (.int (5))))) .nil)) .no)))
  .nil))))
def φ__law_plain : List D → R D := runS 6 .fz ir__law_plain
theorem sc__law_plain : FnScope N__law_plain ["script", "at", "sort"] (defScope s__law_plain) := ⟨rfl, rfl, rfl, by decide +kernel, rfl, by decide +kernel, by decide +kernel⟩
theorem ck__law_plain : chkS N__law_plain (defScope s__law_plain) ir__law_plain [] [] { t := .fz } (.inr (defBody s__law_plain)) = true := by decide +kernel
def N__law_value : List PySem.Str := ["script", "at", "sort", "keys", "some"]
def ir__law_value : S := (.seq [] (.ite (.cmp .NotEq (.sub (.var 2) (.con (.int (0)))) (.con (.str "link")))
  (.seq [] (.ret (.call "_law_plain" 3 .fz 3 φ__law_plain (.cons (.var 0) (.cons (.var 1) (.cons (.var 2) .nil)))))
  .nil)
  .nil)
  (.seq [] (.asg [4] (.nm 4) (.sub (.var 3) (.sub (.var 2) (.con (.int (1))))))
  (.seq [] (.ite (.and (.sub (.var 2) (.con (.int (2)))) (.one (.or (.cmp .Eq (.var 4) (.lst .nil)) (.one (.cmp .Eq (.call "_law_pick" 3 .fz 2 φ__law_pick (.cons (.var 0) (.cons (.var 1) (.cons (.con (.int (3))) .nil)))) (.con (.int (0))))))))
  (.seq [] (.ret (.con .non))
  .nil)
  .nil)
  (.seq [] (.ret (.sub (.var 4) (.call "_law_pick" 3 .fz 2 φ__law_pick (.cons (.var 0) (.cons (.bin .Add (.var 1) (.con (.int (1)))) (.cons (.bi .len (.cons (.var 4) .nil)) .nil))))))
  .nil))))
def φ__law_value : List D → R D := runS 5 .fz ir__law_value
theorem sc__law_value : FnScope N__law_value ["script", "at", "sort", "keys"] (defScope s__law_value) := ⟨rfl, rfl, rfl, by decide +kernel, rfl, by decide +kernel, by decide +kernel⟩
theorem ck__law_value : chkS N__law_value (defScope s__law_value) ir__law_value [] [] { t := .fz } (.inr (defBody s__law_value)) = true := by decide +kernel
def N__law_store : List PySem.Str := ["script", "at", "schema", "most", "counts", "keys", "shelves", "j", "kind", "row", "k", "rows", "name", "fields", "key", "base", "values", "f", "field"]
def L__law_store_1 : S := (.seq [(5, .own .fz), (9, .own .fz)] (.app 9 (.bin .Add (.bin .Add (.bi .max (.cons (.bin .Add (.lst (.cons (.con (.int (0))) .nil)) (.var 9)) .nil)) (.con (.int (1)))) (.call "_law_pick" 3 .fz 2 φ__law_pick (.cons (.var 0) (.cons (.bin .Add (.bin .Add (.bin .Add (.var 1) (.con (.int (5)))) (.bin .Mult (.con (.int (7))) (.var 7))) (.var 10)) (.cons (.con (.int (2))) .nil))))))
  .nil)
def L__law_store_0 : S := (.seq [(5, .own .fz), (9, .own .fz)] (.own 9 (.own .fz) (.lst .nil))
  (.seq [(5, .own .fz), (9, .own .fz)] (.fr [10] (.nm 10) (.itR1 (.cons (.sub (.var 4) (.sub (.var 8) (.con (.int (0))))) .nil))
  L__law_store_1)
  (.wk [(5, .own .fz)] (.seq [(5, .own .fz)] (.put 5 (.sub (.var 8) (.con (.int (0)))) (.var 9))
  .nil))))
def E__law_store_0 : T := (.call "_law_value" 4 .fz 4 φ__law_value (.cons (.var 0) (.cons (.bin .Add (.var 15) (.bin .Mult (.con (.int (7))) (.var 17))) (.cons (.sub (.var 18) (.con (.int (1)))) (.cons (.var 5) .nil)))))
def L__law_store_3 : S := (.seq [(6, .own .fz), (11, .own .fz)] (.asg [15] (.nm 15) (.bin .Add (.bin .Add (.bin .Add (.var 1) (.con (.int (30)))) (.bin .Mult (.con (.int (150))) (.var 7))) (.bin .Mult (.con (.int (30))) (.var 10))))
  (.seq [(6, .own .fz), (11, .own .fz), (16, .own .fz)] (.own 16 (.own .fz) (.lc [("f", 17), ("field", 18)] E__law_store_0 (.tp (.cons (.nm 17) (.cons (.nm 18) .nil))) (.itE (.cons (.var 13) .nil)) .no))
  (.seq [(6, .own .fz), (11, .own .fz), (16, .own .fz)] (.app 11 (.tup (.cons (.var 14) (.cons (.bin .Add (.con (.int (1))) (.call "_law_pick" 3 .fz 2 φ__law_pick (.cons (.var 0) (.cons (.bin .Add (.var 15) (.con (.int (28)))) (.cons (.con (.int (3))) .nil))))) (.cons (.bi .tuple (.cons (.var 16) .nil)) .nil)))))
  .nil)))
def L__law_store_2 : S := (.seq [(6, .own .fz), (11, .own .fz)] (.own 11 (.own .fz) (.lst .nil))
  (.seq [(6, .own .fz), (11, .own .fz)] (.fr [10, 14] (.tp (.cons (.nm 10) (.cons (.nm 14) .nil))) (.itE (.cons (.sub (.var 5) (.var 12)) .nil))
  L__law_store_3)
  (.seq [(6, .own .fz), (11, .own .fz)] (.app 6 (.tup (.cons (.bin .Add (.bin .Add (.bi .max (.cons (.bin .Add (.lst (.cons (.con (.int (0))) .nil)) (.sub (.var 5) (.var 12))) .nil)) (.con (.int (1)))) (.call "_law_pick" 3 .fz 2 φ__law_pick (.cons (.var 0) (.cons (.bin .Add (.var 1) (.con (.int (4)))) (.cons (.con (.int (2))) .nil))))) (.cons (.bi .tuple (.cons (.var 11) .nil)) .nil))))
  .nil)))
def ir__law_store : S := (.seq [] (.asg [4] (.nm 4) (.call "_law_counts" 4 .fz 3 φ__law_counts (.cons (.var 0) (.cons (.var 1) (.cons (.var 2) (.cons (.var 3) .nil))))))
  (.seq [(5, .own .fz)] (.own 5 (.own .fz) (.dnew false))
  (.seq [(5, .own .fz)] (.fr [7, 8] (.tp (.cons (.nm 7) (.cons (.nm 8) .nil))) (.itE (.cons (.var 2) .nil))
  L__law_store_0)
  (.seq [(5, .own .fz), (6, .own .fz)] (.own 6 (.own .fz) (.lst .nil))
  (.wk [(6, .own .fz)] (.seq [(6, .own .fz)] (.fr [7, 12, 13] (.tp (.cons (.nm 7) (.cons (.tp (.cons (.nm 12) (.cons (.nm 13) .nil))) .nil))) (.itE (.cons (.var 2) .nil))
  L__law_store_2)
  (.seq [(5, .own .fz), (6, .own .fz), (9, .own .fz), (11, .own .fz), (16, .own .fz)] (.ret (.bi .tuple (.cons (.var 6) .nil)))
  .nil)))))))
def φ__law_store : List D → R D := runS 19 .fz ir__law_store
theorem sc__law_store : FnScope N__law_store ["script", "at", "schema", "most"] (defScope s__law_store) := ⟨rfl, rfl, rfl, by decide +kernel, rfl, by decide +kernel, by decide +kernel⟩
theorem ck__law_store : chkS N__law_store (defScope s__law_store) ir__law_store [] [] { t := .fz } (.inr (defBody s__law_store)) = true := by decide +kernel
def N_kind_names : List PySem.Str := ["schema", "kind"]
def E_kind_names_0 : T := (.sub (.var 1) (.con (.int (0))))
def ir_kind_names : S := (.seq [] (.ret (.lc [("kind", 1)] E_kind_names_0 (.nm 1) (.itI (.var 0)) .no))
  .nil)
def φ_kind_names : List D → R D := runS 2 .fz ir_kind_names
theorem sc_kind_names : FnScope N_kind_names ["schema"] (defScope s_kind_names) := ⟨rfl, rfl, rfl, by decide +kernel, rfl, by decide +kernel, by decide +kernel⟩
theorem ck_kind_names : chkS N_kind_names (defScope s_kind_names) ir_kind_names [] [] { t := .fz } (.inr (defBody s_kind_names)) = true := by decide +kernel
def N_shelf_of : List PySem.Str := ["schema", "store", "kind"]
def ir_shelf_of : S := (.seq [] (.ret (.sub (.var 1) (.idx (.call "kind_names" 1 .fz 1 φ_kind_names (.cons (.var 0) .nil)) (.var 2))))
  .nil)
def φ_shelf_of : List D → R D := runS 3 .fz ir_shelf_of
theorem sc_shelf_of : FnScope N_shelf_of ["schema", "store", "kind"] (defScope s_shelf_of) := ⟨rfl, rfl, rfl, by decide +kernel, rfl, by decide +kernel, by decide +kernel⟩
theorem ck_shelf_of : chkS N_shelf_of (defScope s_shelf_of) ir_shelf_of [] [] { t := .fz } (.inr (defBody s_shelf_of)) = true := by decide +kernel
def N_row_in : List PySem.Str := ["schema", "store", "kind", "key", "row"]
def L_row_in_0 : S := (.seq [] (.ite (.cmp .Eq (.sub (.var 4) (.con (.int (0)))) (.var 3))
  (.seq [] (.ret (.tup (.cons (.sub (.var 4) (.con (.int (1)))) (.cons (.sub (.var 4) (.con (.int (2)))) .nil))))
  .nil)
  .nil)
  .nil)
def ir_row_in : S := (.seq [] (.fr [4] (.nm 4) (.itI (.sub (.call "shelf_of" 3 .fz 2 φ_shelf_of (.cons (.var 0) (.cons (.var 1) (.cons (.var 2) .nil)))) (.con (.int (1)))))
  L_row_in_0)
  (.seq [] (.rai "NoRow")
  .nil))
def φ_row_in : List D → R D := runS 5 .fz ir_row_in
theorem sc_row_in : FnScope N_row_in ["schema", "store", "kind", "key"] (defScope s_row_in) := ⟨rfl, rfl, rfl, by decide +kernel, rfl, by decide +kernel, by decide +kernel⟩
theorem ck_row_in : chkS N_row_in (defScope s_row_in) ir_row_in [] [] { t := .fz } (.inr (defBody s_row_in)) = true := by decide +kernel
def N_fields_of : List PySem.Str := ["schema", "kind"]
def ir_fields_of : S := (.seq [] (.ret (.sub (.sub (.var 0) (.idx (.call "kind_names" 1 .fz 1 φ_kind_names (.cons (.var 0) .nil)) (.var 1))) (.con (.int (1)))))
  .nil)
def φ_fields_of : List D → R D := runS 2 .fz ir_fields_of
theorem sc_fields_of : FnScope N_fields_of ["schema", "kind"] (defScope s_fields_of) := ⟨rfl, rfl, rfl, by decide +kernel, rfl, by decide +kernel, by decide +kernel⟩
theorem ck_fields_of : chkS N_fields_of (defScope s_fields_of) ir_fields_of [] [] { t := .fz } (.inr (defBody s_fields_of)) = true := by decide +kernel
def N_is_plain : List PySem.Str := ["sort"]
def ir_is_plain : S := (.seq [] (.ret (.isi "str" (.var 0)))
  .nil)
def φ_is_plain : List D → R D := runS 1 .fz ir_is_plain
theorem sc_is_plain : FnScope N_is_plain ["sort"] (defScope s_is_plain) := ⟨rfl, rfl, rfl, by decide +kernel, rfl, by decide +kernel, by decide +kernel⟩
theorem ck_is_plain : chkS N_is_plain (defScope s_is_plain) ir_is_plain [] [] { t := .fz } (.inr (defBody s_is_plain)) = true := by decide +kernel
def N_link_fields : List PySem.Str := ["schema", "kind", "at", "field"]
def E_link_fields_0 : T := (.tup (.cons (.var 2) (.cons (.sub (.var 3) (.con (.int (1)))) .nil)))
def J_link_fields_0 : T := (.not (.call "is_plain" 1 .fz 1 φ_is_plain (.cons (.sub (.var 3) (.con (.int (1)))) .nil)))
def ir_link_fields : S := (.seq [] (.ret (.lc [("at", 2), ("field", 3)] E_link_fields_0 (.tp (.cons (.nm 2) (.cons (.nm 3) .nil))) (.itE (.cons (.call "fields_of" 2 .fz 2 φ_fields_of (.cons (.var 0) (.cons (.var 1) .nil))) .nil)) J_link_fields_0))
  .nil)
def φ_link_fields : List D → R D := runS 4 .fz ir_link_fields
theorem sc_link_fields : FnScope N_link_fields ["schema", "kind"] (defScope s_link_fields) := ⟨rfl, rfl, rfl, by decide +kernel, rfl, by decide +kernel, by decide +kernel⟩
theorem ck_link_fields : chkS N_link_fields (defScope s_link_fields) ir_link_fields [] [] { t := .fz } (.inr (defBody s_link_fields)) = true := by decide +kernel
def N_goals_of : List PySem.Str := ["schema", "store", "kind", "key", "values", "made", "at", "sort"]
def E_goals_of_0 : T := (.tup (.cons (.sub (.var 7) (.con (.int (1)))) (.cons (.sub (.var 4) (.var 6)) .nil)))
def J_goals_of_0 : T := (.cmp .IsNot (.sub (.var 4) (.var 6)) (.con .non))
def ir_goals_of : S := (.seq [] (.asg [4] (.nm 4) (.sub (.call "row_in" 4 .fz 3 φ_row_in (.cons (.var 0) (.cons (.var 1) (.cons (.var 2) (.cons (.var 3) .nil))))) (.con (.int (1)))))
  (.seq [(5, .own .fz)] (.own 5 (.own .fz) (.lc [("at", 6), ("sort", 7)] E_goals_of_0 (.tp (.cons (.nm 6) (.cons (.nm 7) .nil))) (.itI (.call "link_fields" 2 .fz 3 φ_link_fields (.cons (.var 0) (.cons (.var 2) .nil)))) J_goals_of_0))
  (.seq [(5, .own .fz)] (.reo (.sset (.var 5)))
  .nil)))
def φ_goals_of : List D → R D := runS 8 (.own .fz) ir_goals_of
theorem sc_goals_of : FnScope N_goals_of ["schema", "store", "kind", "key"] (defScope s_goals_of) := ⟨rfl, rfl, rfl, by decide +kernel, rfl, by decide +kernel, by decide +kernel⟩
theorem ck_goals_of : chkS N_goals_of (defScope s_goals_of) ir_goals_of [] [] { t := (.own .fz) } (.inr (defBody s_goals_of)) = true := by decide +kernel
def N_rows_reached : List PySem.Str := ["schema", "store", "kind", "key", "made", "waiting", "here"]
def L_rows_reached_0 : S := (.seq [(4, .own .fz), (5, .own .fz)] (.popL 6 5)
  (.seq [(4, .own .fz), (5, .own .fz)] (.ite (.cmp .NotIn (.var 6) (.var 4))
  (.seq [(4, .own .fz), (5, .own .fz)] (.app 4 (.var 6))
  (.seq [(4, .own .fz), (5, .own .fz)] (.ext 5 (.call "goals_of" 4 (.own .fz) 4 φ_goals_of (.cons (.var 0) (.cons (.var 1) (.cons (.sub (.var 6) (.con (.int (0)))) (.cons (.sub (.var 6) (.con (.int (1)))) .nil))))))
  .nil))
  .nil)
  .nil))
def ir_rows_reached : S := (.seq [(4, .own .fz)] (.own 4 (.own .fz) (.lst .nil))
  (.seq [(4, .own .fz), (5, .own .fz)] (.own 5 (.own .fz) (.call "goals_of" 4 (.own .fz) 4 φ_goals_of (.cons (.var 0) (.cons (.var 1) (.cons (.var 2) (.cons (.var 3) .nil))))))
  (.seq [(4, .own .fz), (5, .own .fz)] (.whl 1000 (.cmp .NotEq (.var 5) (.lst .nil))
  L_rows_reached_0)
  (.seq [(4, .own .fz), (5, .own .fz)] (.ret (.bi .sorted (.cons (.var 4) .nil)))
  .nil))))
def φ_rows_reached : List D → R D := runS 7 .fz ir_rows_reached
theorem sc_rows_reached : FnScope N_rows_reached ["schema", "store", "kind", "key"] (defScope s_rows_reached) := ⟨rfl, rfl, rfl, by decide +kernel, rfl, by decide +kernel, by decide +kernel⟩
theorem ck_rows_reached : chkS N_rows_reached (defScope s_rows_reached) ir_rows_reached [] [] { t := .fz } (.inr (defBody s_rows_reached)) = true := by decide +kernel
def N_kept_from : List PySem.Str := ["schema", "store", "rows", "kept", "made", "kind", "key", "number", "some", "row"]
def L_kept_from_0 : S := (.seq [(3, .own .fz)] (.ext 3 (.bin .Add (.lst (.cons (.tup (.cons (.var 5) (.cons (.var 6) .nil))) .nil)) (.call "rows_reached" 4 .fz 5 φ_rows_reached (.cons (.var 0) (.cons (.var 1) (.cons (.var 5) (.cons (.var 6) .nil)))))))
  .nil)
def E_kept_from_0 : T := (.var 9)
def J_kept_from_0 : T := (.cmp .In (.tup (.cons (.var 5) (.cons (.sub (.var 9) (.con (.int (0)))) .nil))) (.var 3))
def L_kept_from_1 : S := (.seq [(3, .own .fz), (4, .own .fz)] (.asg [7, 8] (.tp (.cons (.nm 7) (.cons (.nm 8) .nil))) (.call "shelf_of" 3 .fz 2 φ_shelf_of (.cons (.var 0) (.cons (.var 1) (.cons (.var 5) .nil)))))
  (.seq [(3, .own .fz), (4, .own .fz)] (.app 4 (.tup (.cons (.var 7) (.cons (.bi .tuple (.cons (.lc [("row", 9)] E_kept_from_0 (.nm 9) (.itI (.var 8)) J_kept_from_0) .nil)) .nil))))
  .nil))
def ir_kept_from : S := (.seq [(3, .own .fz)] (.own 3 (.own .fz) (.lst .nil))
  (.seq [(3, .own .fz)] (.fr [5, 6] (.tp (.cons (.nm 5) (.cons (.nm 6) .nil))) (.itI (.var 2))
  L_kept_from_0)
  (.seq [(3, .own .fz), (4, .own .fz)] (.own 4 (.own .fz) (.lst .nil))
  (.seq [(3, .own .fz), (4, .own .fz)] (.fr [5] (.nm 5) (.itI (.call "kind_names" 1 .fz 1 φ_kind_names (.cons (.var 0) .nil)))
  L_kept_from_1)
  (.seq [(3, .own .fz), (4, .own .fz)] (.ret (.bi .tuple (.cons (.var 4) .nil)))
  .nil)))))
def φ_kept_from : List D → R D := runS 10 .fz ir_kept_from
theorem sc_kept_from : FnScope N_kept_from ["schema", "store", "rows"] (defScope s_kept_from) := ⟨rfl, rfl, rfl, by decide +kernel, rfl, by decide +kernel, by decide +kernel⟩
theorem ck_kept_from : chkS N_kept_from (defScope s_kept_from) ir_kept_from [] [] { t := .fz } (.inr (defBody s_kept_from)) = true := by decide +kernel
def N_keys_of : List PySem.Str := ["schema", "store", "kind", "row"]
def E_keys_of_0 : T := (.sub (.var 3) (.con (.int (0))))
def ir_keys_of : S := (.seq [] (.ret (.lc [("row", 3)] E_keys_of_0 (.nm 3) (.itI (.sub (.call "shelf_of" 3 .fz 2 φ_shelf_of (.cons (.var 0) (.cons (.var 1) (.cons (.var 2) .nil)))) (.con (.int (1))))) .no))
  .nil)
def φ_keys_of : List D → R D := runS 4 .fz ir_keys_of
theorem sc_keys_of : FnScope N_keys_of ["schema", "store", "kind"] (defScope s_keys_of) := ⟨rfl, rfl, rfl, by decide +kernel, rfl, by decide +kernel, by decide +kernel⟩
theorem ck_keys_of : chkS N_keys_of (defScope s_keys_of) ir_keys_of [] [] { t := .fz } (.inr (defBody s_keys_of)) = true := by decide +kernel
def N_row_counts : List PySem.Str := ["schema", "store", "kind"]
def E_row_counts_0 : T := (.tup (.cons (.var 2) (.cons (.bi .len (.cons (.call "keys_of" 3 .fz 3 φ_keys_of (.cons (.var 0) (.cons (.var 1) (.cons (.var 2) .nil)))) .nil)) .nil)))
def ir_row_counts : S := (.seq [] (.ret (.lc [("kind", 2)] E_row_counts_0 (.nm 2) (.itI (.call "kind_names" 1 .fz 1 φ_kind_names (.cons (.var 0) .nil))) .no))
  .nil)
def φ_row_counts : List D → R D := runS 3 .fz ir_row_counts
theorem sc_row_counts : FnScope N_row_counts ["schema", "store"] (defScope s_row_counts) := ⟨rfl, rfl, rfl, by decide +kernel, rfl, by decide +kernel, by decide +kernel⟩
theorem ck_row_counts : chkS N_row_counts (defScope s_row_counts) ir_row_counts [] [] { t := .fz } (.inr (defBody s_row_counts)) = true := by decide +kernel
def N__law_rows : List PySem.Str := ["schema", "store", "made", "shelf", "name", "fields", "key", "version", "values"]
def L__law_rows_1 : S := (.seq [(2, .own .fz)] (.put 2 (.tup (.cons (.var 4) (.cons (.var 6) .nil))) (.var 8))
  .nil)
def L__law_rows_0 : S := (.seq [(2, .own .fz)] (.fr [6, 7, 8] (.tp (.cons (.nm 6) (.cons (.nm 7) (.cons (.nm 8) .nil)))) (.itI (.sub (.var 3) (.con (.int (1)))))
  L__law_rows_1)
  .nil)
def ir__law_rows : S := (.seq [(2, .own .fz)] (.own 2 (.own .fz) (.dnew true))
  (.seq [(2, .own .fz)] (.fr [4, 5, 3] (.tp (.cons (.tp (.cons (.nm 4) (.cons (.nm 5) .nil))) (.cons (.nm 3) .nil))) (.itZ (.cons (.var 0) (.cons (.var 1) .nil)))
  L__law_rows_0)
  (.wk [] (.seq [(2, .own .fz)] (.ret (.var 2))
  .nil))))
def φ__law_rows : List D → R D := runS 9 .fz ir__law_rows
theorem sc__law_rows : FnScope N__law_rows ["schema", "store"] (defScope s__law_rows) := ⟨rfl, rfl, rfl, by decide +kernel, rfl, by decide +kernel, by decide +kernel⟩
theorem ck__law_rows : chkS N__law_rows (defScope s__law_rows) ir__law_rows [] [] { t := .fz } (.inr (defBody s__law_rows)) = true := by decide +kernel
def N_is_whole : List PySem.Str := ["thing"]
def ir_is_whole : S := (.seq [] (.ret (.and (.isi "int" (.var 0)) (.one (.not (.isi "bool" (.var 0))))))
  .nil)
def φ_is_whole : List D → R D := runS 1 .fz ir_is_whole
theorem sc_is_whole : FnScope N_is_whole ["thing"] (defScope s_is_whole) := ⟨rfl, rfl, rfl, by decide +kernel, rfl, by decide +kernel, by decide +kernel⟩
theorem ck_is_whole : chkS N_is_whole (defScope s_is_whole) ir_is_whole [] [] { t := .fz } (.inr (defBody s_is_whole)) = true := by decide +kernel
def N_is_text : List PySem.Str := ["thing", "sign"]
def E_is_text_0 : T := (.chn .LtE .LtE (.con (.str " ")) (.var 1) (.con (.str "~")))
def ir_is_text : S := (.seq [] (.ret (.and (.isi "str" (.var 0)) (.and (.cmp .LtE (.bi .len (.cons (.var 0) .nil)) (.glo "LONGEST_TEXT" (.int (8)))) (.one (.bi .all (.cons (.lc [("sign", 1)] E_is_text_0 (.nm 1) (.itS (.var 0)) .no) .nil))))))
  .nil)
def φ_is_text : List D → R D := runS 2 .fz ir_is_text
theorem sc_is_text : FnScope N_is_text ["thing"] (defScope s_is_text) := ⟨rfl, rfl, rfl, by decide +kernel, rfl, by decide +kernel, by decide +kernel⟩
theorem ck_is_text : chkS N_is_text (defScope s_is_text) ir_is_text [] [] { t := .fz } (.inr (defBody s_is_text)) = true := by decide +kernel
def N_is_plain_value : List PySem.Str := ["sort", "thing"]
def ir_is_plain_value : S := (.seq [] (.ite (.cmp .Eq (.var 0) (.con (.str "number")))
  (.seq [] (.ret (.and (.call "is_whole" 1 .fz 1 φ_is_whole (.cons (.var 1) .nil)) (.one (.chn .LtE .LtE (.bin .Sub (.con (.int (0))) (.glo "TOP" (.int (9999)))) (.var 1) (.glo "TOP" (.int (9999)))))))
  .nil)
  .nil)
  (.seq [] (.ret (.call "is_text" 1 .fz 1 φ_is_text (.cons (.var 1) .nil)))
  .nil))
def φ_is_plain_value : List D → R D := runS 2 .fz ir_is_plain_value
theorem sc_is_plain_value : FnScope N_is_plain_value ["sort", "thing"] (defScope s_is_plain_value) := ⟨rfl, rfl, rfl, by decide +kernel, rfl, by decide +kernel, by decide +kernel⟩
theorem ck_is_plain_value : chkS N_is_plain_value (defScope s_is_plain_value) ir_is_plain_value [] [] { t := .fz } (.inr (defBody s_is_plain_value)) = true := by decide +kernel
def N_is_store_value : List PySem.Str := ["sort", "thing"]
def ir_is_store_value : S := (.seq [] (.ite (.call "is_plain" 1 .fz 1 φ_is_plain (.cons (.var 0) .nil))
  (.seq [] (.ret (.call "is_plain_value" 2 .fz 2 φ_is_plain_value (.cons (.var 0) (.cons (.var 1) .nil))))
  .nil)
  .nil)
  (.seq [] (.ret (.or (.cmp .Is (.var 1) (.con .non)) (.one (.and (.call "is_whole" 1 .fz 1 φ_is_whole (.cons (.var 1) .nil)) (.one (.cmp .GtE (.var 1) (.con (.int (1)))))))))
  .nil))
def φ_is_store_value : List D → R D := runS 2 .fz ir_is_store_value
theorem sc_is_store_value : FnScope N_is_store_value ["sort", "thing"] (defScope s_is_store_value) := ⟨rfl, rfl, rfl, by decide +kernel, rfl, by decide +kernel, by decide +kernel⟩
theorem ck_is_store_value : chkS N_is_store_value (defScope s_is_store_value) ir_is_store_value [] [] { t := .fz } (.inr (defBody s_is_store_value)) = true := by decide +kernel
def N_are_values : List PySem.Str := ["schema", "kind", "thing", "fields", "field", "value"]
def E_are_values_0 : T := (.call "is_store_value" 2 .fz 3 φ_is_store_value (.cons (.sub (.var 4) (.con (.int (1)))) (.cons (.var 5) .nil)))
def ir_are_values : S := (.seq [] (.asg [3] (.nm 3) (.call "fields_of" 2 .fz 2 φ_fields_of (.cons (.var 0) (.cons (.var 1) .nil))))
  (.seq [] (.ite (.or (.not (.isi "tuple" (.var 2))) (.one (.cmp .NotEq (.bi .len (.cons (.var 2) .nil)) (.bi .len (.cons (.var 3) .nil)))))
  (.seq [] (.ret (.con (.bl false)))
  .nil)
  .nil)
  (.seq [] (.ret (.bi .all (.cons (.lc [("field", 4), ("value", 5)] E_are_values_0 (.tp (.cons (.nm 4) (.cons (.nm 5) .nil))) (.itZ (.cons (.var 3) (.cons (.var 2) .nil))) .no) .nil)))
  .nil)))
def φ_are_values : List D → R D := runS 6 .fz ir_are_values
theorem sc_are_values : FnScope N_are_values ["schema", "kind", "thing"] (defScope s_are_values) := ⟨rfl, rfl, rfl, by decide +kernel, rfl, by decide +kernel, by decide +kernel⟩
theorem ck_are_values : chkS N_are_values (defScope s_are_values) ir_are_values [] [] { t := .fz } (.inr (defBody s_are_values)) = true := by decide +kernel
def N_is_row : List PySem.Str := ["schema", "kind", "next_one", "thing"]
def ir_is_row : S := (.seq [] (.ite (.or (.not (.isi "tuple" (.var 3))) (.or (.cmp .NotEq (.bi .len (.cons (.var 3) .nil)) (.con (.int (3)))) (.or (.not (.call "is_whole" 1 .fz 1 φ_is_whole (.cons (.sub (.var 3) (.con (.int (0)))) .nil))) (.one (.not (.call "is_whole" 1 .fz 1 φ_is_whole (.cons (.sub (.var 3) (.con (.int (1)))) .nil)))))))
  (.seq [] (.ret (.con (.bl false)))
  .nil)
  .nil)
  (.seq [] (.ret (.and (.chn .LtE .Lt (.con (.int (1))) (.sub (.var 3) (.con (.int (0)))) (.var 2)) (.and (.cmp .GtE (.sub (.var 3) (.con (.int (1)))) (.con (.int (1)))) (.one (.call "are_values" 3 .fz 4 φ_are_values (.cons (.var 0) (.cons (.var 1) (.cons (.sub (.var 3) (.con (.int (2)))) .nil))))))))
  .nil))
def φ_is_row : List D → R D := runS 4 .fz ir_is_row
theorem sc_is_row : FnScope N_is_row ["schema", "kind", "next_one", "thing"] (defScope s_is_row) := ⟨rfl, rfl, rfl, by decide +kernel, rfl, by decide +kernel, by decide +kernel⟩
theorem ck_is_row : chkS N_is_row (defScope s_is_row) ir_is_row [] [] { t := .fz } (.inr (defBody s_is_row)) = true := by decide +kernel
def N_is_shelf : List PySem.Str := ["schema", "kind", "thing", "keys", "row"]
def E_is_shelf_0 : T := (.call "is_row" 4 .fz 5 φ_is_row (.cons (.var 0) (.cons (.var 1) (.cons (.sub (.var 2) (.con (.int (0)))) (.cons (.var 4) .nil)))))
def E_is_shelf_1 : T := (.sub (.var 4) (.con (.int (0))))
def ir_is_shelf : S := (.seq [] (.ite (.or (.not (.isi "tuple" (.var 2))) (.or (.cmp .NotEq (.bi .len (.cons (.var 2) .nil)) (.con (.int (2)))) (.or (.not (.call "is_whole" 1 .fz 1 φ_is_whole (.cons (.sub (.var 2) (.con (.int (0)))) .nil))) (.one (.cmp .Lt (.sub (.var 2) (.con (.int (0)))) (.con (.int (1))))))))
  (.seq [(3, .own .fz)] (.ret (.con (.bl false)))
  .nil)
  .nil)
  (.seq [] (.ite (.or (.not (.isi "tuple" (.sub (.var 2) (.con (.int (1)))))) (.one (.not (.bi .all (.cons (.lc [("row", 4)] E_is_shelf_0 (.nm 4) (.itI (.sub (.var 2) (.con (.int (1))))) .no) .nil)))))
  (.seq [(3, .own .fz)] (.ret (.con (.bl false)))
  .nil)
  .nil)
  (.seq [(3, .own .fz)] (.own 3 (.own .fz) (.lc [("row", 4)] E_is_shelf_1 (.nm 4) (.itI (.sub (.var 2) (.con (.int (1))))) .no))
  (.seq [(3, .own .fz)] (.ret (.cmp .Eq (.var 3) (.sset (.var 3))))
  .nil))))
def φ_is_shelf : List D → R D := runS 5 .fz ir_is_shelf
theorem sc_is_shelf : FnScope N_is_shelf ["schema", "kind", "thing"] (defScope s_is_shelf) := ⟨rfl, rfl, rfl, by decide +kernel, rfl, by decide +kernel, by decide +kernel⟩
theorem ck_is_shelf : chkS N_is_shelf (defScope s_is_shelf) ir_is_shelf [] [] { t := .fz } (.inr (defBody s_is_shelf)) = true := by decide +kernel
def N_all_lead : List PySem.Str := ["schema", "store", "kind", "values", "at", "sort"]
def L_all_lead_0 : S := (.seq [] (.ite (.cmp .Is (.sub (.var 3) (.var 4)) (.con .non))
  (.seq [] (.ite (.not (.sub (.var 5) (.con (.int (2)))))
  (.seq [] (.ret (.con (.bl false)))
  .nil)
  .nil)
  .nil)
  (.seq [] (.ite (.cmp .NotIn (.sub (.var 3) (.var 4)) (.call "keys_of" 3 .fz 3 φ_keys_of (.cons (.var 0) (.cons (.var 1) (.cons (.sub (.var 5) (.con (.int (1)))) .nil)))))
  (.seq [] (.ret (.con (.bl false)))
  .nil)
  .nil)
  .nil))
  .nil)
def ir_all_lead : S := (.seq [] (.fr [4, 5] (.tp (.cons (.nm 4) (.cons (.nm 5) .nil))) (.itI (.call "link_fields" 2 .fz 3 φ_link_fields (.cons (.var 0) (.cons (.var 2) .nil))))
  L_all_lead_0)
  (.seq [] (.ret (.con (.bl true)))
  .nil))
def φ_all_lead : List D → R D := runS 6 .fz ir_all_lead
theorem sc_all_lead : FnScope N_all_lead ["schema", "store", "kind", "values"] (defScope s_all_lead) := ⟨rfl, rfl, rfl, by decide +kernel, rfl, by decide +kernel, by decide +kernel⟩
theorem ck_all_lead : chkS N_all_lead (defScope s_all_lead) ir_all_lead [] [] { t := .fz } (.inr (defBody s_all_lead)) = true := by decide +kernel
def N_is_store : List PySem.Str := ["schema", "thing", "kind", "shelf", "row"]
def E_is_store_0 : T := (.call "is_shelf" 3 .fz 6 φ_is_shelf (.cons (.var 0) (.cons (.sub (.var 2) (.con (.int (0)))) (.cons (.var 3) .nil))))
def E_is_store_1 : T := (.call "all_lead" 4 .fz 4 φ_all_lead (.cons (.var 0) (.cons (.var 1) (.cons (.sub (.var 2) (.con (.int (0)))) (.cons (.sub (.var 4) (.con (.int (2)))) .nil)))))
def L_is_store_0 : S := (.seq [] (.ite (.not (.bi .all (.cons (.lc [("row", 4)] E_is_store_1 (.nm 4) (.itI (.sub (.var 3) (.con (.int (1))))) .no) .nil)))
  (.seq [] (.ret (.con (.bl false)))
  .nil)
  .nil)
  .nil)
def ir_is_store : S := (.seq [] (.ite (.or (.not (.isi "tuple" (.var 1))) (.one (.cmp .NotEq (.bi .len (.cons (.var 1) .nil)) (.bi .len (.cons (.var 0) .nil)))))
  (.seq [] (.ret (.con (.bl false)))
  .nil)
  .nil)
  (.seq [] (.ite (.not (.bi .all (.cons (.lc [("kind", 2), ("shelf", 3)] E_is_store_0 (.tp (.cons (.nm 2) (.cons (.nm 3) .nil))) (.itZ (.cons (.var 0) (.cons (.var 1) .nil))) .no) .nil)))
  (.seq [] (.ret (.con (.bl false)))
  .nil)
  .nil)
  (.seq [] (.fr [2, 3] (.tp (.cons (.nm 2) (.cons (.nm 3) .nil))) (.itZ (.cons (.var 0) (.cons (.var 1) .nil)))
  L_is_store_0)
  (.seq [] (.ret (.con (.bl true)))
  .nil))))
def φ_is_store : List D → R D := runS 5 .fz ir_is_store
theorem sc_is_store : FnScope N_is_store ["schema", "thing"] (defScope s_is_store) := ⟨rfl, rfl, rfl, by decide +kernel, rfl, by decide +kernel, by decide +kernel⟩
theorem ck_is_store : chkS N_is_store (defScope s_is_store) ir_is_store [] [] { t := .fz } (.inr (defBody s_is_store)) = true := by decide +kernel
def N_next_key : List PySem.Str := ["schema", "store", "kind"]
def ir_next_key : S := (.seq [] (.ret (.sub (.call "shelf_of" 3 .fz 2 φ_shelf_of (.cons (.var 0) (.cons (.var 1) (.cons (.var 2) .nil)))) (.con (.int (0)))))
  .nil)
def φ_next_key : List D → R D := runS 3 .fz ir_next_key
theorem sc_next_key : FnScope N_next_key ["schema", "store", "kind"] (defScope s_next_key) := ⟨rfl, rfl, rfl, by decide +kernel, rfl, by decide +kernel, by decide +kernel⟩
theorem ck_next_key : chkS N_next_key (defScope s_next_key) ir_next_key [] [] { t := .fz } (.inr (defBody s_next_key)) = true := by decide +kernel
def N__law_goals : List PySem.Str := ["schema", "store", "row", "made", "shelf", "name", "fields", "key", "version", "values", "value", "field", "sort"]
def L__law_goals_2 : S := (.seq [(3, .own .fz)] (.ext 3 (.bin .Mult (.lst (.cons (.tup (.cons (.sub (.var 12) (.con (.int (1)))) (.cons (.var 10) .nil))) .nil)) (.bi .int (.cons (.and (.cmp .Eq (.tup (.cons (.var 5) (.cons (.var 7) .nil))) (.var 2)) (.and (.cmp .Eq (.sub (.var 12) (.con (.int (0)))) (.con (.str "link"))) (.one (.cmp .IsNot (.var 10) (.con .non))))) .nil))))
  .nil)
def L__law_goals_1 : S := (.seq [(3, .own .fz)] (.fr [11, 12, 10] (.tp (.cons (.tp (.cons (.nm 11) (.cons (.nm 12) .nil))) (.cons (.nm 10) .nil))) (.itZ (.cons (.var 6) (.cons (.var 9) .nil)))
  L__law_goals_2)
  .nil)
def L__law_goals_0 : S := (.seq [(3, .own .fz)] (.fr [7, 8, 9] (.tp (.cons (.nm 7) (.cons (.nm 8) (.cons (.nm 9) .nil)))) (.itI (.sub (.var 4) (.con (.int (1)))))
  L__law_goals_1)
  .nil)
def ir__law_goals : S := (.seq [(3, .own .fz)] (.own 3 (.own .fz) (.lst .nil))
  (.seq [(3, .own .fz)] (.fr [5, 6, 4] (.tp (.cons (.tp (.cons (.nm 5) (.cons (.nm 6) .nil))) (.cons (.nm 4) .nil))) (.itZ (.cons (.var 0) (.cons (.var 1) .nil)))
  L__law_goals_0)
  (.seq [(3, .own .fz)] (.reo (.sset (.var 3)))
  .nil)))
def φ__law_goals : List D → R D := runS 13 (.own .fz) ir__law_goals
theorem sc__law_goals : FnScope N__law_goals ["schema", "store", "row"] (defScope s__law_goals) := ⟨rfl, rfl, rfl, by decide +kernel, rfl, by decide +kernel, by decide +kernel⟩
theorem ck__law_goals : chkS N__law_goals (defScope s__law_goals) ir__law_goals [] [] { t := (.own .fz) } (.inr (defBody s__law_goals)) = true := by decide +kernel
def N__law_reached : List PySem.Str := ["schema", "store", "row", "made", "many", "here", "one"]
def E__law_reached_0 : T := (.var 6)
def J__law_reached_0 : T := (.cmp .NotIn (.var 6) (.var 3))
def L__law_reached_1 : S := (.seq [(3, .own .fz)] (.ext 3 (.lc [("one", 6)] E__law_reached_0 (.nm 6) (.itI (.call "_law_goals" 3 (.own .fz) 1 φ__law_goals (.cons (.var 0) (.cons (.var 1) (.cons (.var 5) .nil))))) J__law_reached_0))
  .nil)
def L__law_reached_0 : S := (.seq [(3, .own .fz)] (.asg [4] (.nm 4) (.bi .len (.cons (.var 3) .nil)))
  (.seq [(3, .own .fz)] (.fr [5] (.nm 5) (.itI (.bi .list (.cons (.var 3) .nil)))
  L__law_reached_1)
  .nil))
def ir__law_reached : S := (.seq [(3, .own .fz)] (.own 3 (.own .fz) (.call "_law_goals" 3 (.own .fz) 1 φ__law_goals (.cons (.var 0) (.cons (.var 1) (.cons (.var 2) .nil)))))
  (.seq [(3, .own .fz)] (.asg [4] (.nm 4) (.con (.int (0))))
  (.seq [(3, .own .fz)] (.whl 1000 (.cmp .Lt (.var 4) (.bi .len (.cons (.var 3) .nil)))
  L__law_reached_0)
  (.seq [(3, .own .fz)] (.ret (.bi .sorted (.cons (.var 3) .nil)))
  .nil))))
def φ__law_reached : List D → R D := runS 7 .fz ir__law_reached
theorem sc__law_reached : FnScope N__law_reached ["schema", "store", "row"] (defScope s__law_reached) := ⟨rfl, rfl, rfl, by decide +kernel, rfl, by decide +kernel, by decide +kernel⟩
theorem ck__law_reached : chkS N__law_reached (defScope s__law_reached) ir__law_reached [] [] { t := .fz } (.inr (defBody s__law_reached)) = true := by decide +kernel
def N_law : List PySem.Str := ["script", "schema", "store", "rows", "some", "made", "kept", "row", "due", "kind", "shelf", "key", "many", "following", "k"]
def E_law_0 : T := (.var 7)
def J_law_0 : T := (.cmp .Eq (.call "_law_pick" 3 .fz 2 φ__law_pick (.cons (.var 0) (.cons (.bin .Add (.con (.int (900))) (.var 14)) (.cons (.con (.int (3))) .nil)))) (.con (.int (0))))
def L_law_0 : S := (.seq [(6, .own .fz)] (.ext 6 (.call "_law_reached" 3 .fz 2 φ__law_reached (.cons (.var 1) (.cons (.var 2) (.cons (.var 7) .nil)))))
  .nil)
def E_law_1 : T := (.var 7)
def J_law_1 : T := (.cmp .In (.tup (.cons (.sub (.var 9) (.con (.int (0)))) (.cons (.sub (.var 7) (.con (.int (0)))) .nil))) (.var 6))
def L_law_1 : S := (.seq [(6, .own .fz), (8, .own .fz)] (.app 8 (.tup (.cons (.sub (.var 10) (.con (.int (0)))) (.cons (.bi .tuple (.cons (.lc [("row", 7)] E_law_1 (.nm 7) (.itI (.sub (.var 10) (.con (.int (1))))) J_law_1) .nil)) .nil))))
  .nil)
def L_law_2 : S := (.seq [(6, .own .fz), (8, .own .fz)] (.ite (.cmp .NotEq (.call "rows_reached" 4 .fz 5 φ_rows_reached (.cons (.var 1) (.cons (.var 5) (.cons (.var 9) (.cons (.var 11) .nil))))) (.call "rows_reached" 4 .fz 5 φ_rows_reached (.cons (.var 1) (.cons (.var 2) (.cons (.var 9) (.cons (.var 11) .nil))))))
  (.seq [(4, .own .fz), (6, .own .fz), (8, .own .fz)] (.ret (.con (.bl false)))
  .nil)
  .nil)
  (.seq [(6, .own .fz), (8, .own .fz)] (.ite (.cmp .NotEq (.call "row_in" 4 .fz 3 φ_row_in (.cons (.var 1) (.cons (.var 5) (.cons (.var 9) (.cons (.var 11) .nil))))) (.call "row_in" 4 .fz 3 φ_row_in (.cons (.var 1) (.cons (.var 2) (.cons (.var 9) (.cons (.var 11) .nil))))))
  (.seq [(4, .own .fz), (6, .own .fz), (8, .own .fz)] (.ret (.con (.bl false)))
  .nil)
  .nil)
  .nil))
def L_law_3 : S := (.seq [(6, .own .fz), (8, .own .fz)] (.asg [13] (.nm 13) (.call "next_key" 3 .fz 3 φ_next_key (.cons (.var 1) (.cons (.var 2) (.cons (.var 9) .nil)))))
  (.seq [(6, .own .fz), (8, .own .fz)] (.ite (.or (.cmp .NotEq (.var 12) (.con (.int (0)))) (.one (.cmp .NotEq (.call "next_key" 3 .fz 3 φ_next_key (.cons (.var 1) (.cons (.var 5) (.cons (.var 9) .nil)))) (.var 13))))
  (.seq [(4, .own .fz), (6, .own .fz), (8, .own .fz)] (.ret (.con (.bl false)))
  .nil)
  .nil)
  .nil))
def E_law_2 : T := (.var 12)
def ir_law : S := (.seq [] (.asg [1] (.nm 1) (.call "_law_schema" 2 .fz 4 φ__law_schema (.cons (.var 0) (.cons (.con (.int (0))) .nil))))
  (.seq [] (.asg [2] (.nm 2) (.call "_law_store" 4 .fz 5 φ__law_store (.cons (.var 0) (.cons (.con (.int (100))) (.cons (.var 1) (.cons (.con (.int (3))) .nil))))))
  (.seq [] (.asg [3] (.nm 3) (.bi .sortd (.cons (.call "_law_rows" 2 .fz 1 φ__law_rows (.cons (.var 1) (.cons (.var 2) .nil))) .nil)))
  (.seq [(4, .own .fz)] (.own 4 (.own .fz) (.lc [("k", 14), ("row", 7)] E_law_0 (.tp (.cons (.nm 14) (.cons (.nm 7) .nil))) (.itE (.cons (.var 3) .nil)) J_law_0))
  (.seq [(4, .own .fz)] (.asg [5] (.nm 5) (.call "kept_from" 3 .fz 6 φ_kept_from (.cons (.var 1) (.cons (.var 2) (.cons (.bin .Add (.revl (.var 4)) (.sli (.var 4) .no (.con (.int (1))))) .nil)))))
  (.seq [(4, .own .fz)] (.ite (.cmp .IsNot (.call "is_store" 2 .fz 7 φ_is_store (.cons (.var 1) (.cons (.var 5) .nil))) (.con (.bl true)))
  (.seq [(4, .own .fz), (6, .own .fz), (8, .own .fz)] (.ret (.con (.bl false)))
  .nil)
  .nil)
  (.seq [(4, .own .fz), (6, .own .fz)] (.own 6 (.own .fz) (.bi .list (.cons (.var 4) .nil)))
  (.wk [(6, .own .fz)] (.seq [(6, .own .fz)] (.fr [7] (.nm 7) (.itI (.var 4))
  L_law_0)
  (.seq [(6, .own .fz), (8, .own .fz)] (.own 8 (.own .fz) (.lst .nil))
  (.seq [(6, .own .fz), (8, .own .fz)] (.fr [9, 10] (.tp (.cons (.nm 9) (.cons (.nm 10) .nil))) (.itZ (.cons (.var 1) (.cons (.var 2) .nil)))
  L_law_1)
  (.seq [(6, .own .fz), (8, .own .fz)] (.ite (.or (.cmp .NotEq (.var 5) (.bi .tuple (.cons (.var 8) .nil))) (.or (.cmp .NotEq (.call "kept_from" 3 .fz 6 φ_kept_from (.cons (.var 1) (.cons (.var 5) (.cons (.bi .tuple (.cons (.var 4) .nil)) .nil)))) (.var 5)) (.one (.cmp .NotEq (.call "kept_from" 3 .fz 6 φ_kept_from (.cons (.var 1) (.cons (.var 2) (.cons (.var 3) .nil)))) (.var 2)))))
  (.seq [(4, .own .fz), (6, .own .fz), (8, .own .fz)] (.ret (.con (.bl false)))
  .nil)
  .nil)
  (.seq [(6, .own .fz), (8, .own .fz)] (.fr [9, 11] (.tp (.cons (.nm 9) (.cons (.nm 11) .nil))) (.itI (.var 4))
  L_law_2)
  (.seq [(6, .own .fz), (8, .own .fz)] (.fr [9, 12] (.tp (.cons (.nm 9) (.cons (.nm 12) .nil))) (.itI (.call "row_counts" 2 .fz 4 φ_row_counts (.cons (.var 1) (.cons (.call "kept_from" 3 .fz 6 φ_kept_from (.cons (.var 1) (.cons (.var 2) (.cons (.lst .nil) .nil)))) .nil))))
  L_law_3)
  (.seq [(4, .own .fz), (6, .own .fz), (8, .own .fz)] (.ret (.cmp .Eq (.bi .sum (.cons (.lc [("kind", 9), ("many", 12)] E_law_2 (.tp (.cons (.nm 9) (.cons (.nm 12) .nil))) (.itI (.call "row_counts" 2 .fz 4 φ_row_counts (.cons (.var 1) (.cons (.var 5) .nil)))) .no) .nil)) (.lset (.var 6))))
  .nil)))))))))))))))
def φ_law : List D → R D := runS 15 .fz ir_law
theorem sc_law : FnScope N_law ["script"] (defScope s_law) := ⟨rfl, rfl, rfl, by decide +kernel, rfl, by decide +kernel, by decide +kernel⟩
theorem ck_law : chkS N_law (defScope s_law) ir_law [] [] { t := .fz } (.inr (defBody s_law)) = true := by decide +kernel
section
variable {M : Wld}
theorem walk (hBL : ∀ x ∈ BL, M.mg x = none)
    (g_LONGEST_TEXT : M.GK "LONGEST_TEXT" (.int (8)))
    (g_TOP : M.GK "TOP" (.int (9999)))
    (x_NoRow : M.XK "NoRow")
    (u__law_cell : M.mg "_law_cell" = some (.ref (He.ga M.K "_law_cell"))) (d__law_cell : ∃ fd, FunD M.K "_law_cell" "_law_cell" (defArgs s__law_cell) (defBody s__law_cell) (defScope s__law_cell) [] [] (He.ga M.K "_law_cell") fd)
    (u__law_pick : M.mg "_law_pick" = some (.ref (He.ga M.K "_law_pick"))) (d__law_pick : ∃ fd, FunD M.K "_law_pick" "_law_pick" (defArgs s__law_pick) (defBody s__law_pick) (defScope s__law_pick) [] [] (He.ga M.K "_law_pick") fd)
    (u__law_sort : M.mg "_law_sort" = some (.ref (He.ga M.K "_law_sort"))) (d__law_sort : ∃ fd, FunD M.K "_law_sort" "_law_sort" (defArgs s__law_sort) (defBody s__law_sort) (defScope s__law_sort) [] [] (He.ga M.K "_law_sort") fd)
    (u__law_schema : M.mg "_law_schema" = some (.ref (He.ga M.K "_law_schema"))) (d__law_schema : ∃ fd, FunD M.K "_law_schema" "_law_schema" (defArgs s__law_schema) (defBody s__law_schema) (defScope s__law_schema) [] [] (He.ga M.K "_law_schema") fd)
    (u__law_counts : M.mg "_law_counts" = some (.ref (He.ga M.K "_law_counts"))) (d__law_counts : ∃ fd, FunD M.K "_law_counts" "_law_counts" (defArgs s__law_counts) (defBody s__law_counts) (defScope s__law_counts) [] [] (He.ga M.K "_law_counts") fd)
    (u__law_plain : M.mg "_law_plain" = some (.ref (He.ga M.K "_law_plain"))) (d__law_plain : ∃ fd, FunD M.K "_law_plain" "_law_plain" (defArgs s__law_plain) (defBody s__law_plain) (defScope s__law_plain) [] [] (He.ga M.K "_law_plain") fd)
    (u__law_value : M.mg "_law_value" = some (.ref (He.ga M.K "_law_value"))) (d__law_value : ∃ fd, FunD M.K "_law_value" "_law_value" (defArgs s__law_value) (defBody s__law_value) (defScope s__law_value) [] [] (He.ga M.K "_law_value") fd)
    (u__law_store : M.mg "_law_store" = some (.ref (He.ga M.K "_law_store"))) (d__law_store : ∃ fd, FunD M.K "_law_store" "_law_store" (defArgs s__law_store) (defBody s__law_store) (defScope s__law_store) [] [] (He.ga M.K "_law_store") fd)
    (u_kind_names : M.mg "kind_names" = some (.ref (He.ga M.K "kind_names"))) (d_kind_names : ∃ fd, FunD M.K "kind_names" "kind_names" (defArgs s_kind_names) (defBody s_kind_names) (defScope s_kind_names) [] [] (He.ga M.K "kind_names") fd)
    (u_shelf_of : M.mg "shelf_of" = some (.ref (He.ga M.K "shelf_of"))) (d_shelf_of : ∃ fd, FunD M.K "shelf_of" "shelf_of" (defArgs s_shelf_of) (defBody s_shelf_of) (defScope s_shelf_of) [] [] (He.ga M.K "shelf_of") fd)
    (u_row_in : M.mg "row_in" = some (.ref (He.ga M.K "row_in"))) (d_row_in : ∃ fd, FunD M.K "row_in" "row_in" (defArgs s_row_in) (defBody s_row_in) (defScope s_row_in) [] [] (He.ga M.K "row_in") fd)
    (u_fields_of : M.mg "fields_of" = some (.ref (He.ga M.K "fields_of"))) (d_fields_of : ∃ fd, FunD M.K "fields_of" "fields_of" (defArgs s_fields_of) (defBody s_fields_of) (defScope s_fields_of) [] [] (He.ga M.K "fields_of") fd)
    (u_is_plain : M.mg "is_plain" = some (.ref (He.ga M.K "is_plain"))) (d_is_plain : ∃ fd, FunD M.K "is_plain" "is_plain" (defArgs s_is_plain) (defBody s_is_plain) (defScope s_is_plain) [] [] (He.ga M.K "is_plain") fd)
    (u_link_fields : M.mg "link_fields" = some (.ref (He.ga M.K "link_fields"))) (d_link_fields : ∃ fd, FunD M.K "link_fields" "link_fields" (defArgs s_link_fields) (defBody s_link_fields) (defScope s_link_fields) [] [] (He.ga M.K "link_fields") fd)
    (u_goals_of : M.mg "goals_of" = some (.ref (He.ga M.K "goals_of"))) (d_goals_of : ∃ fd, FunD M.K "goals_of" "goals_of" (defArgs s_goals_of) (defBody s_goals_of) (defScope s_goals_of) [] [] (He.ga M.K "goals_of") fd)
    (u_rows_reached : M.mg "rows_reached" = some (.ref (He.ga M.K "rows_reached"))) (d_rows_reached : ∃ fd, FunD M.K "rows_reached" "rows_reached" (defArgs s_rows_reached) (defBody s_rows_reached) (defScope s_rows_reached) [] [] (He.ga M.K "rows_reached") fd)
    (u_kept_from : M.mg "kept_from" = some (.ref (He.ga M.K "kept_from"))) (d_kept_from : ∃ fd, FunD M.K "kept_from" "kept_from" (defArgs s_kept_from) (defBody s_kept_from) (defScope s_kept_from) [] [] (He.ga M.K "kept_from") fd)
    (u_keys_of : M.mg "keys_of" = some (.ref (He.ga M.K "keys_of"))) (d_keys_of : ∃ fd, FunD M.K "keys_of" "keys_of" (defArgs s_keys_of) (defBody s_keys_of) (defScope s_keys_of) [] [] (He.ga M.K "keys_of") fd)
    (u_row_counts : M.mg "row_counts" = some (.ref (He.ga M.K "row_counts"))) (d_row_counts : ∃ fd, FunD M.K "row_counts" "row_counts" (defArgs s_row_counts) (defBody s_row_counts) (defScope s_row_counts) [] [] (He.ga M.K "row_counts") fd)
    (u__law_rows : M.mg "_law_rows" = some (.ref (He.ga M.K "_law_rows"))) (d__law_rows : ∃ fd, FunD M.K "_law_rows" "_law_rows" (defArgs s__law_rows) (defBody s__law_rows) (defScope s__law_rows) [] [] (He.ga M.K "_law_rows") fd)
    (u_is_whole : M.mg "is_whole" = some (.ref (He.ga M.K "is_whole"))) (d_is_whole : ∃ fd, FunD M.K "is_whole" "is_whole" (defArgs s_is_whole) (defBody s_is_whole) (defScope s_is_whole) [] [] (He.ga M.K "is_whole") fd)
    (u_is_text : M.mg "is_text" = some (.ref (He.ga M.K "is_text"))) (d_is_text : ∃ fd, FunD M.K "is_text" "is_text" (defArgs s_is_text) (defBody s_is_text) (defScope s_is_text) [] [] (He.ga M.K "is_text") fd)
    (u_is_plain_value : M.mg "is_plain_value" = some (.ref (He.ga M.K "is_plain_value"))) (d_is_plain_value : ∃ fd, FunD M.K "is_plain_value" "is_plain_value" (defArgs s_is_plain_value) (defBody s_is_plain_value) (defScope s_is_plain_value) [] [] (He.ga M.K "is_plain_value") fd)
    (u_is_store_value : M.mg "is_store_value" = some (.ref (He.ga M.K "is_store_value"))) (d_is_store_value : ∃ fd, FunD M.K "is_store_value" "is_store_value" (defArgs s_is_store_value) (defBody s_is_store_value) (defScope s_is_store_value) [] [] (He.ga M.K "is_store_value") fd)
    (u_are_values : M.mg "are_values" = some (.ref (He.ga M.K "are_values"))) (d_are_values : ∃ fd, FunD M.K "are_values" "are_values" (defArgs s_are_values) (defBody s_are_values) (defScope s_are_values) [] [] (He.ga M.K "are_values") fd)
    (u_is_row : M.mg "is_row" = some (.ref (He.ga M.K "is_row"))) (d_is_row : ∃ fd, FunD M.K "is_row" "is_row" (defArgs s_is_row) (defBody s_is_row) (defScope s_is_row) [] [] (He.ga M.K "is_row") fd)
    (u_is_shelf : M.mg "is_shelf" = some (.ref (He.ga M.K "is_shelf"))) (d_is_shelf : ∃ fd, FunD M.K "is_shelf" "is_shelf" (defArgs s_is_shelf) (defBody s_is_shelf) (defScope s_is_shelf) [] [] (He.ga M.K "is_shelf") fd)
    (u_all_lead : M.mg "all_lead" = some (.ref (He.ga M.K "all_lead"))) (d_all_lead : ∃ fd, FunD M.K "all_lead" "all_lead" (defArgs s_all_lead) (defBody s_all_lead) (defScope s_all_lead) [] [] (He.ga M.K "all_lead") fd)
    (u_is_store : M.mg "is_store" = some (.ref (He.ga M.K "is_store"))) (d_is_store : ∃ fd, FunD M.K "is_store" "is_store" (defArgs s_is_store) (defBody s_is_store) (defScope s_is_store) [] [] (He.ga M.K "is_store") fd)
    (u_next_key : M.mg "next_key" = some (.ref (He.ga M.K "next_key"))) (d_next_key : ∃ fd, FunD M.K "next_key" "next_key" (defArgs s_next_key) (defBody s_next_key) (defScope s_next_key) [] [] (He.ga M.K "next_key") fd)
    (u__law_goals : M.mg "_law_goals" = some (.ref (He.ga M.K "_law_goals"))) (d__law_goals : ∃ fd, FunD M.K "_law_goals" "_law_goals" (defArgs s__law_goals) (defBody s__law_goals) (defScope s__law_goals) [] [] (He.ga M.K "_law_goals") fd)
    (u__law_reached : M.mg "_law_reached" = some (.ref (He.ga M.K "_law_reached"))) (d__law_reached : ∃ fd, FunD M.K "_law_reached" "_law_reached" (defArgs s__law_reached) (defBody s__law_reached) (defScope s__law_reached) [] [] (He.ga M.K "_law_reached") fd)
    {fd : FuncData} (F : FunD M.K "law" "law" (defArgs s_law) (defBody s_law) (defScope s_law) [] [] (He.ga M.K "law") fd)
    : FnOk M.P M.w M.K M.mg M.base (L2.CX M.P M.w) 8 (He.ga M.K "law") fd ["script"] (spD M.K 1 .fz φ_law) := by
  have F__law_cell : ∀ k, 1 ≤ k → (M.kn k).FK "_law_cell" 2 .fz 1 φ__law_cell := by
    obtain ⟨fd, F⟩ := d__law_cell
    intro k hk
    exact ⟨hk, fok_of (k := 0) hBL u__law_cell F sc__law_cell (fun _ _ _ _ _ _ us hl => match us, hl with | [_, _], _ => rfl) ⟨⟨⟨trivial, ⟨trivial, trivial⟩⟩, ⟨⟨trivial, trivial⟩, trivial⟩, trivial⟩, ⟨⟨⟨trivial, trivial⟩, ⟨trivial, trivial⟩, trivial⟩, ⟨⟨⟨⟨trivial, ⟨trivial, ⟨trivial, trivial⟩⟩⟩, trivial⟩, trivial⟩, trivial⟩⟩⟩ ck__law_cell⟩
  have F__law_pick : ∀ k, 2 ≤ k → (M.kn k).FK "_law_pick" 3 .fz 2 φ__law_pick := by
    obtain ⟨fd, F⟩ := d__law_pick
    intro k hk
    exact ⟨hk, fok_of (k := 1) hBL u__law_pick F sc__law_pick (fun _ _ _ _ _ _ us hl => match us, hl with | [_, _, _], _ => rfl) ⟨⟨⟨⟨⟨(F__law_cell 1 (by decide)), ⟨trivial, ⟨trivial, trivial⟩⟩⟩, ⟨trivial, ⟨trivial, trivial⟩⟩⟩, trivial⟩, trivial⟩, ⟨⟨⟨⟨⟨trivial, trivial⟩, ⟨trivial, trivial⟩⟩, trivial⟩, trivial⟩, trivial⟩⟩ ck__law_pick⟩
  have F__law_sort : ∀ k, 3 ≤ k → (M.kn k).FK "_law_sort" 3 .fz 3 φ__law_sort := by
    obtain ⟨fd, F⟩ := d__law_sort
    intro k hk
    exact ⟨hk, fok_of (k := 2) hBL u__law_sort F sc__law_sort (fun _ _ _ _ _ _ us hl => match us, hl with | [_, _, _], _ => rfl) ⟨⟨(F__law_pick 2 (by decide)), ⟨trivial, ⟨trivial, ⟨trivial, trivial⟩⟩⟩⟩, ⟨⟨⟨trivial, trivial⟩, ⟨⟨⟨trivial, ⟨trivial, ⟨trivial, trivial⟩⟩⟩, trivial⟩, trivial⟩, trivial⟩, ⟨⟨⟨(F__law_pick 2 (by decide)), ⟨trivial, ⟨⟨trivial, trivial⟩, ⟨trivial, trivial⟩⟩⟩⟩, trivial⟩, ⟨⟨⟨trivial, ⟨trivial, ⟨trivial, trivial⟩⟩⟩, ⟨(F__law_pick 2 (by decide)), ⟨trivial, ⟨⟨trivial, trivial⟩, ⟨trivial, trivial⟩⟩⟩⟩⟩, ⟨⟨⟨⟨trivial, trivial⟩, trivial⟩, ⟨trivial, trivial⟩, trivial⟩, ⟨⟨trivial, ⟨⟨trivial, ⟨(F__law_pick 2 (by decide)), ⟨trivial, ⟨⟨trivial, trivial⟩, ⟨⟨trivial, trivial⟩, trivial⟩⟩⟩⟩⟩, ⟨trivial, ⟨trivial, trivial⟩⟩⟩⟩, trivial⟩⟩⟩⟩⟩⟩ ck__law_sort⟩
  have F__law_schema : ∀ k, 4 ≤ k → (M.kn k).FK "_law_schema" 2 .fz 4 φ__law_schema := by
    obtain ⟨fd, F⟩ := d__law_schema
    intro k hk
    exact ⟨hk, fok_of (k := 3) hBL u__law_schema F sc__law_schema (fun _ _ _ _ _ _ us hl => match us, hl with | [_, _], _ => rfl) ⟨⟨⟨⟨trivial, ⟨trivial, ⟨trivial, ⟨trivial, trivial⟩⟩⟩⟩, ⟨(F__law_pick 3 (by decide)), ⟨trivial, ⟨trivial, ⟨trivial, trivial⟩⟩⟩⟩, trivial⟩, trivial, ⟨trivial, ⟨(F__law_pick 3 (by decide)), ⟨trivial, ⟨⟨trivial, trivial⟩, ⟨trivial, trivial⟩⟩⟩⟩⟩⟩, ⟨trivial, ⟨⟨⟨trivial, trivial⟩, ⟨⟨trivial, ⟨(F__law_pick 3 (by decide)), ⟨trivial, ⟨⟨⟨trivial, trivial⟩, ⟨trivial, trivial⟩⟩, ⟨trivial, trivial⟩⟩⟩⟩⟩, ⟨⟨⟨⟨⟨trivial, trivial⟩, ⟨trivial, trivial⟩⟩, ⟨⟨(F__law_sort 3 (by decide)), ⟨trivial, ⟨⟨⟨⟨trivial, trivial⟩, ⟨trivial, trivial⟩⟩, ⟨trivial, trivial⟩⟩, ⟨trivial, trivial⟩⟩⟩⟩, trivial⟩⟩, ⟨trivial, trivial⟩, trivial⟩, ⟨⟨trivial, ⟨⟨trivial, trivial⟩, trivial⟩⟩, trivial⟩⟩⟩⟩, ⟨⟨trivial, trivial⟩, trivial⟩⟩⟩⟩ ck__law_schema⟩
  have F__law_counts : ∀ k, 3 ≤ k → (M.kn k).FK "_law_counts" 4 .fz 3 φ__law_counts := by
    obtain ⟨fd, F⟩ := d__law_counts
    intro k hk
    exact ⟨hk, fok_of (k := 2) hBL u__law_counts F sc__law_counts (fun _ _ _ _ _ _ us hl => match us, hl with | [_, _, _, _], _ => rfl) ⟨trivial, ⟨⟨⟨trivial, trivial⟩, ⟨⟨⟨trivial, trivial⟩, ⟨(F__law_pick 2 (by decide)), ⟨trivial, ⟨⟨trivial, trivial⟩, ⟨⟨trivial, trivial⟩, trivial⟩⟩⟩⟩⟩, trivial⟩⟩, ⟨⟨⟨⟨trivial, trivial⟩, trivial⟩, ⟨⟨trivial, ⟨⟨trivial, ⟨⟨⟨⟨⟨trivial, trivial⟩, trivial⟩, ⟨⟨trivial, trivial⟩, ⟨⟨trivial, ⟨trivial, trivial⟩⟩, trivial⟩⟩⟩, ⟨⟨trivial, trivial⟩, trivial⟩, trivial⟩, trivial⟩⟩, trivial⟩⟩, trivial⟩⟩, ⟨trivial, trivial⟩⟩⟩⟩ ck__law_counts⟩
  have F__law_plain : ∀ k, 3 ≤ k → (M.kn k).FK "_law_plain" 3 .fz 3 φ__law_plain := by
    obtain ⟨fd, F⟩ := d__law_plain
    intro k hk
    exact ⟨hk, fok_of (k := 2) hBL u__law_plain F sc__law_plain (fun _ _ _ _ _ _ us hl => match us, hl with | [_, _, _], _ => rfl) ⟨⟨(F__law_pick 2 (by decide)), ⟨trivial, ⟨trivial, ⟨⟨trivial, trivial⟩, trivial⟩⟩⟩⟩, ⟨⟨⟨trivial, trivial⟩, ⟨⟨⟨trivial, ⟨trivial, ⟨trivial, ⟨trivial, ⟨trivial, ⟨⟨⟨trivial, trivial⟩, trivial⟩, ⟨⟨⟨trivial, trivial⟩, trivial⟩, trivial⟩⟩⟩⟩⟩⟩⟩, ⟨⟨trivial, trivial⟩, trivial⟩⟩, trivial⟩, trivial⟩, ⟨trivial, ⟨⟨trivial, ⟨⟨trivial, ⟨(F__law_pick 2 (by decide)), ⟨trivial, ⟨⟨trivial, trivial⟩, ⟨trivial, trivial⟩⟩⟩⟩⟩, ⟨⟨⟨trivial, ⟨trivial, ⟨trivial, ⟨trivial, ⟨trivial, trivial⟩⟩⟩⟩⟩, ⟨trivial, trivial⟩⟩, trivial⟩, trivial⟩⟩, trivial⟩⟩⟩⟩ ck__law_plain⟩
  have F__law_value : ∀ k, 4 ≤ k → (M.kn k).FK "_law_value" 4 .fz 4 φ__law_value := by
    obtain ⟨fd, F⟩ := d__law_value
    intro k hk
    exact ⟨hk, fok_of (k := 3) hBL u__law_value F sc__law_value (fun _ _ _ _ _ _ us hl => match us, hl with | [_, _, _, _], _ => rfl) ⟨⟨⟨⟨trivial, trivial⟩, trivial⟩, ⟨⟨(F__law_plain 3 (by decide)), ⟨trivial, ⟨trivial, ⟨trivial, trivial⟩⟩⟩⟩, trivial⟩, trivial⟩, ⟨⟨trivial, ⟨trivial, trivial⟩⟩, ⟨⟨⟨⟨trivial, trivial⟩, ⟨⟨trivial, trivial⟩, ⟨⟨(F__law_pick 3 (by decide)), ⟨trivial, ⟨trivial, ⟨trivial, trivial⟩⟩⟩⟩, trivial⟩⟩⟩, ⟨trivial, trivial⟩, trivial⟩, ⟨⟨trivial, ⟨(F__law_pick 3 (by decide)), ⟨trivial, ⟨⟨trivial, trivial⟩, ⟨⟨trivial, trivial⟩, trivial⟩⟩⟩⟩⟩, trivial⟩⟩⟩⟩ ck__law_value⟩
  have F__law_store : ∀ k, 5 ≤ k → (M.kn k).FK "_law_store" 4 .fz 5 φ__law_store := by
    obtain ⟨fd, F⟩ := d__law_store
    intro k hk
    exact ⟨hk, fok_of (k := 4) hBL u__law_store F sc__law_store (fun _ _ _ _ _ _ us hl => match us, hl with | [_, _, _, _], _ => rfl) ⟨⟨(F__law_counts 4 (by decide)), ⟨trivial, ⟨trivial, ⟨trivial, ⟨trivial, trivial⟩⟩⟩⟩⟩, ⟨trivial, ⟨⟨⟨trivial, trivial⟩, ⟨trivial, ⟨⟨⟨⟨trivial, ⟨trivial, trivial⟩⟩, trivial⟩, ⟨⟨⟨⟨⟨⟨trivial, trivial⟩, trivial⟩, trivial⟩, trivial⟩, ⟨(F__law_pick 4 (by decide)), ⟨trivial, ⟨⟨⟨⟨trivial, trivial⟩, ⟨trivial, trivial⟩⟩, trivial⟩, ⟨trivial, trivial⟩⟩⟩⟩⟩, trivial⟩⟩, ⟨⟨⟨trivial, trivial⟩, trivial⟩, trivial⟩⟩⟩⟩, ⟨trivial, ⟨⟨⟨trivial, trivial⟩, ⟨trivial, ⟨⟨⟨⟨trivial, trivial⟩, trivial⟩, ⟨⟨⟨⟨trivial, trivial⟩, ⟨trivial, trivial⟩⟩, ⟨trivial, trivial⟩⟩, ⟨⟨⟨(F__law_value 4 (by decide)), ⟨trivial, ⟨⟨trivial, ⟨trivial, trivial⟩⟩, ⟨⟨trivial, trivial⟩, ⟨trivial, trivial⟩⟩⟩⟩⟩, ⟨trivial, trivial⟩, trivial⟩, ⟨⟨trivial, ⟨⟨trivial, ⟨(F__law_pick 4 (by decide)), ⟨trivial, ⟨⟨trivial, trivial⟩, ⟨trivial, trivial⟩⟩⟩⟩⟩, ⟨⟨trivial, trivial⟩, trivial⟩⟩⟩, trivial⟩⟩⟩⟩, ⟨⟨⟨⟨⟨⟨⟨trivial, trivial⟩, ⟨trivial, trivial⟩⟩, trivial⟩, trivial⟩, ⟨(F__law_pick 4 (by decide)), ⟨trivial, ⟨⟨trivial, trivial⟩, ⟨trivial, trivial⟩⟩⟩⟩⟩, ⟨⟨trivial, trivial⟩, trivial⟩⟩, trivial⟩⟩⟩⟩, ⟨⟨trivial, trivial⟩, trivial⟩⟩⟩⟩⟩⟩ ck__law_store⟩
  have F_kind_names : ∀ k, 1 ≤ k → (M.kn k).FK "kind_names" 1 .fz 1 φ_kind_names := by
    obtain ⟨fd, F⟩ := d_kind_names
    intro k hk
    exact ⟨hk, fok_of (k := 0) hBL u_kind_names F sc_kind_names (fun _ _ _ _ _ _ us hl => match us, hl with | [_], _ => rfl) ⟨⟨⟨trivial, trivial⟩, trivial, trivial⟩, trivial⟩ ck_kind_names⟩
  have F_shelf_of : ∀ k, 2 ≤ k → (M.kn k).FK "shelf_of" 3 .fz 2 φ_shelf_of := by
    obtain ⟨fd, F⟩ := d_shelf_of
    intro k hk
    exact ⟨hk, fok_of (k := 1) hBL u_shelf_of F sc_shelf_of (fun _ _ _ _ _ _ us hl => match us, hl with | [_, _, _], _ => rfl) ⟨⟨trivial, ⟨⟨(F_kind_names 1 (by decide)), ⟨trivial, trivial⟩⟩, trivial⟩⟩, trivial⟩ ck_shelf_of⟩
  have F_row_in : ∀ k, 3 ≤ k → (M.kn k).FK "row_in" 4 .fz 3 φ_row_in := by
    obtain ⟨fd, F⟩ := d_row_in
    intro k hk
    exact ⟨hk, fok_of (k := 2) hBL u_row_in F sc_row_in (fun _ _ _ _ _ _ us hl => match us, hl with | [_, _, _, _], _ => rfl) ⟨⟨⟨⟨(F_shelf_of 2 (by decide)), ⟨trivial, ⟨trivial, ⟨trivial, trivial⟩⟩⟩⟩, trivial⟩, ⟨⟨⟨⟨trivial, trivial⟩, trivial⟩, ⟨⟨⟨trivial, trivial⟩, ⟨⟨trivial, trivial⟩, trivial⟩⟩, trivial⟩, trivial⟩, trivial⟩⟩, ⟨x_NoRow, trivial⟩⟩ ck_row_in⟩
  have F_fields_of : ∀ k, 2 ≤ k → (M.kn k).FK "fields_of" 2 .fz 2 φ_fields_of := by
    obtain ⟨fd, F⟩ := d_fields_of
    intro k hk
    exact ⟨hk, fok_of (k := 1) hBL u_fields_of F sc_fields_of (fun _ _ _ _ _ _ us hl => match us, hl with | [_, _], _ => rfl) ⟨⟨⟨trivial, ⟨⟨(F_kind_names 1 (by decide)), ⟨trivial, trivial⟩⟩, trivial⟩⟩, trivial⟩, trivial⟩ ck_fields_of⟩
  have F_is_plain : ∀ k, 1 ≤ k → (M.kn k).FK "is_plain" 1 .fz 1 φ_is_plain := by
    obtain ⟨fd, F⟩ := d_is_plain
    intro k hk
    exact ⟨hk, fok_of (k := 0) hBL u_is_plain F sc_is_plain (fun _ _ _ _ _ _ us hl => match us, hl with | [_], _ => rfl) ⟨trivial, trivial⟩ ck_is_plain⟩
  have F_link_fields : ∀ k, 3 ≤ k → (M.kn k).FK "link_fields" 2 .fz 3 φ_link_fields := by
    obtain ⟨fd, F⟩ := d_link_fields
    intro k hk
    exact ⟨hk, fok_of (k := 2) hBL u_link_fields F sc_link_fields (fun _ _ _ _ _ _ us hl => match us, hl with | [_, _], _ => rfl) ⟨⟨⟨trivial, ⟨⟨trivial, trivial⟩, trivial⟩⟩, ⟨⟨(F_fields_of 2 (by decide)), ⟨trivial, ⟨trivial, trivial⟩⟩⟩, trivial⟩, ⟨(F_is_plain 2 (by decide)), ⟨⟨trivial, trivial⟩, trivial⟩⟩⟩, trivial⟩ ck_link_fields⟩
  have F_goals_of : ∀ k, 4 ≤ k → (M.kn k).FK "goals_of" 4 (.own .fz) 4 φ_goals_of := by
    obtain ⟨fd, F⟩ := d_goals_of
    intro k hk
    exact ⟨hk, fok_of (k := 3) hBL u_goals_of F sc_goals_of (fun _ _ _ _ _ _ us hl => match us, hl with | [_, _, _, _], _ => rfl) ⟨⟨⟨(F_row_in 3 (by decide)), ⟨trivial, ⟨trivial, ⟨trivial, ⟨trivial, trivial⟩⟩⟩⟩⟩, trivial⟩, ⟨⟨⟨⟨trivial, trivial⟩, ⟨⟨trivial, trivial⟩, trivial⟩⟩, ⟨(F_link_fields 3 (by decide)), ⟨trivial, ⟨trivial, trivial⟩⟩⟩, ⟨⟨trivial, trivial⟩, trivial⟩⟩, ⟨trivial, trivial⟩⟩⟩ ck_goals_of⟩
  have F_rows_reached : ∀ k, 5 ≤ k → (M.kn k).FK "rows_reached" 4 .fz 5 φ_rows_reached := by
    obtain ⟨fd, F⟩ := d_rows_reached
    intro k hk
    exact ⟨hk, fok_of (k := 4) hBL u_rows_reached F sc_rows_reached (fun _ _ _ _ _ _ us hl => match us, hl with | [_, _, _, _], _ => rfl) ⟨trivial, ⟨⟨(F_goals_of 4 (by decide)), ⟨trivial, ⟨trivial, ⟨trivial, ⟨trivial, trivial⟩⟩⟩⟩⟩, ⟨⟨⟨trivial, trivial⟩, ⟨trivial, ⟨⟨⟨trivial, trivial⟩, ⟨trivial, ⟨⟨(F_goals_of 4 (by decide)), ⟨trivial, ⟨trivial, ⟨⟨trivial, trivial⟩, ⟨⟨trivial, trivial⟩, trivial⟩⟩⟩⟩⟩, trivial⟩⟩, trivial⟩, trivial⟩⟩⟩, ⟨⟨trivial, trivial⟩, trivial⟩⟩⟩⟩ ck_rows_reached⟩
  have F_kept_from : ∀ k, 6 ≤ k → (M.kn k).FK "kept_from" 3 .fz 6 φ_kept_from := by
    obtain ⟨fd, F⟩ := d_kept_from
    intro k hk
    exact ⟨hk, fok_of (k := 5) hBL u_kept_from F sc_kept_from (fun _ _ _ _ _ _ us hl => match us, hl with | [_, _, _], _ => rfl) ⟨trivial, ⟨⟨trivial, ⟨⟨⟨⟨trivial, ⟨trivial, trivial⟩⟩, trivial⟩, ⟨(F_rows_reached 5 (by decide)), ⟨trivial, ⟨trivial, ⟨trivial, ⟨trivial, trivial⟩⟩⟩⟩⟩⟩, trivial⟩⟩, ⟨trivial, ⟨⟨⟨(F_kind_names 5 (by decide)), ⟨trivial, trivial⟩⟩, ⟨⟨(F_shelf_of 5 (by decide)), ⟨trivial, ⟨trivial, ⟨trivial, trivial⟩⟩⟩⟩, ⟨⟨trivial, ⟨⟨⟨trivial, trivial, ⟨⟨trivial, ⟨⟨trivial, trivial⟩, trivial⟩⟩, trivial⟩⟩, trivial⟩, trivial⟩⟩, trivial⟩⟩⟩, ⟨⟨trivial, trivial⟩, trivial⟩⟩⟩⟩⟩ ck_kept_from⟩
  have F_keys_of : ∀ k, 3 ≤ k → (M.kn k).FK "keys_of" 3 .fz 3 φ_keys_of := by
    obtain ⟨fd, F⟩ := d_keys_of
    intro k hk
    exact ⟨hk, fok_of (k := 2) hBL u_keys_of F sc_keys_of (fun _ _ _ _ _ _ us hl => match us, hl with | [_, _, _], _ => rfl) ⟨⟨⟨trivial, trivial⟩, ⟨⟨(F_shelf_of 2 (by decide)), ⟨trivial, ⟨trivial, ⟨trivial, trivial⟩⟩⟩⟩, trivial⟩, trivial⟩, trivial⟩ ck_keys_of⟩
  have F_row_counts : ∀ k, 4 ≤ k → (M.kn k).FK "row_counts" 2 .fz 4 φ_row_counts := by
    obtain ⟨fd, F⟩ := d_row_counts
    intro k hk
    exact ⟨hk, fok_of (k := 3) hBL u_row_counts F sc_row_counts (fun _ _ _ _ _ _ us hl => match us, hl with | [_, _], _ => rfl) ⟨⟨⟨trivial, ⟨⟨⟨(F_keys_of 3 (by decide)), ⟨trivial, ⟨trivial, ⟨trivial, trivial⟩⟩⟩⟩, trivial⟩, trivial⟩⟩, ⟨(F_kind_names 3 (by decide)), ⟨trivial, trivial⟩⟩, trivial⟩, trivial⟩ ck_row_counts⟩
  have F__law_rows : ∀ k, 1 ≤ k → (M.kn k).FK "_law_rows" 2 .fz 1 φ__law_rows := by
    obtain ⟨fd, F⟩ := d__law_rows
    intro k hk
    exact ⟨hk, fok_of (k := 0) hBL u__law_rows F sc__law_rows (fun _ _ _ _ _ _ us hl => match us, hl with | [_, _], _ => rfl) ⟨trivial, ⟨⟨⟨trivial, ⟨trivial, trivial⟩⟩, ⟨⟨⟨trivial, trivial⟩, ⟨⟨⟨trivial, ⟨trivial, trivial⟩⟩, trivial⟩, trivial⟩⟩, trivial⟩⟩, ⟨trivial, trivial⟩⟩⟩ ck__law_rows⟩
  have F_is_whole : ∀ k, 1 ≤ k → (M.kn k).FK "is_whole" 1 .fz 1 φ_is_whole := by
    obtain ⟨fd, F⟩ := d_is_whole
    intro k hk
    exact ⟨hk, fok_of (k := 0) hBL u_is_whole F sc_is_whole (fun _ _ _ _ _ _ us hl => match us, hl with | [_], _ => rfl) ⟨⟨trivial, trivial⟩, trivial⟩ ck_is_whole⟩
  have F_is_text : ∀ k, 1 ≤ k → (M.kn k).FK "is_text" 1 .fz 1 φ_is_text := by
    obtain ⟨fd, F⟩ := d_is_text
    intro k hk
    exact ⟨hk, fok_of (k := 0) hBL u_is_text F sc_is_text (fun _ _ _ _ _ _ us hl => match us, hl with | [_], _ => rfl) ⟨⟨trivial, ⟨⟨⟨trivial, trivial⟩, g_LONGEST_TEXT⟩, ⟨⟨⟨trivial, ⟨trivial, trivial⟩⟩, trivial, trivial⟩, trivial⟩⟩⟩, trivial⟩ ck_is_text⟩
  have F_is_plain_value : ∀ k, 2 ≤ k → (M.kn k).FK "is_plain_value" 2 .fz 2 φ_is_plain_value := by
    obtain ⟨fd, F⟩ := d_is_plain_value
    intro k hk
    exact ⟨hk, fok_of (k := 1) hBL u_is_plain_value F sc_is_plain_value (fun _ _ _ _ _ _ us hl => match us, hl with | [_, _], _ => rfl) ⟨⟨⟨trivial, trivial⟩, ⟨⟨⟨(F_is_whole 1 (by decide)), ⟨trivial, trivial⟩⟩, ⟨⟨trivial, g_TOP⟩, ⟨trivial, g_TOP⟩⟩⟩, trivial⟩, trivial⟩, ⟨⟨(F_is_text 1 (by decide)), ⟨trivial, trivial⟩⟩, trivial⟩⟩ ck_is_plain_value⟩
  have F_is_store_value : ∀ k, 3 ≤ k → (M.kn k).FK "is_store_value" 2 .fz 3 φ_is_store_value := by
    obtain ⟨fd, F⟩ := d_is_store_value
    intro k hk
    exact ⟨hk, fok_of (k := 2) hBL u_is_store_value F sc_is_store_value (fun _ _ _ _ _ _ us hl => match us, hl with | [_, _], _ => rfl) ⟨⟨⟨(F_is_plain 2 (by decide)), ⟨trivial, trivial⟩⟩, ⟨⟨(F_is_plain_value 2 (by decide)), ⟨trivial, ⟨trivial, trivial⟩⟩⟩, trivial⟩, trivial⟩, ⟨⟨⟨trivial, trivial⟩, ⟨⟨(F_is_whole 2 (by decide)), ⟨trivial, trivial⟩⟩, ⟨trivial, trivial⟩⟩⟩, trivial⟩⟩ ck_is_store_value⟩
  have F_are_values : ∀ k, 4 ≤ k → (M.kn k).FK "are_values" 3 .fz 4 φ_are_values := by
    obtain ⟨fd, F⟩ := d_are_values
    intro k hk
    exact ⟨hk, fok_of (k := 3) hBL u_are_values F sc_are_values (fun _ _ _ _ _ _ us hl => match us, hl with | [_, _, _], _ => rfl) ⟨⟨(F_fields_of 3 (by decide)), ⟨trivial, ⟨trivial, trivial⟩⟩⟩, ⟨⟨⟨trivial, ⟨⟨trivial, trivial⟩, ⟨trivial, trivial⟩⟩⟩, ⟨trivial, trivial⟩, trivial⟩, ⟨⟨⟨⟨(F_is_store_value 3 (by decide)), ⟨⟨trivial, trivial⟩, ⟨trivial, trivial⟩⟩⟩, ⟨trivial, ⟨trivial, trivial⟩⟩, trivial⟩, trivial⟩, trivial⟩⟩⟩ ck_are_values⟩
  have F_is_row : ∀ k, 5 ≤ k → (M.kn k).FK "is_row" 4 .fz 5 φ_is_row := by
    obtain ⟨fd, F⟩ := d_is_row
    intro k hk
    exact ⟨hk, fok_of (k := 4) hBL u_is_row F sc_is_row (fun _ _ _ _ _ _ us hl => match us, hl with | [_, _, _, _], _ => rfl) ⟨⟨⟨trivial, ⟨⟨⟨trivial, trivial⟩, trivial⟩, ⟨⟨(F_is_whole 4 (by decide)), ⟨⟨trivial, trivial⟩, trivial⟩⟩, ⟨(F_is_whole 4 (by decide)), ⟨⟨trivial, trivial⟩, trivial⟩⟩⟩⟩⟩, ⟨trivial, trivial⟩, trivial⟩, ⟨⟨⟨trivial, ⟨⟨trivial, trivial⟩, trivial⟩⟩, ⟨⟨⟨trivial, trivial⟩, trivial⟩, ⟨(F_are_values 4 (by decide)), ⟨trivial, ⟨trivial, ⟨⟨trivial, trivial⟩, trivial⟩⟩⟩⟩⟩⟩, trivial⟩⟩ ck_is_row⟩
  have F_is_shelf : ∀ k, 6 ≤ k → (M.kn k).FK "is_shelf" 3 .fz 6 φ_is_shelf := by
    obtain ⟨fd, F⟩ := d_is_shelf
    intro k hk
    exact ⟨hk, fok_of (k := 5) hBL u_is_shelf F sc_is_shelf (fun _ _ _ _ _ _ us hl => match us, hl with | [_, _, _], _ => rfl) ⟨⟨⟨trivial, ⟨⟨⟨trivial, trivial⟩, trivial⟩, ⟨⟨(F_is_whole 5 (by decide)), ⟨⟨trivial, trivial⟩, trivial⟩⟩, ⟨⟨trivial, trivial⟩, trivial⟩⟩⟩⟩, ⟨trivial, trivial⟩, trivial⟩, ⟨⟨⟨⟨trivial, trivial⟩, ⟨⟨⟨(F_is_row 5 (by decide)), ⟨trivial, ⟨trivial, ⟨⟨trivial, trivial⟩, ⟨trivial, trivial⟩⟩⟩⟩⟩, ⟨trivial, trivial⟩, trivial⟩, trivial⟩⟩, ⟨trivial, trivial⟩, trivial⟩, ⟨⟨⟨trivial, trivial⟩, ⟨trivial, trivial⟩, trivial⟩, ⟨⟨trivial, trivial⟩, trivial⟩⟩⟩⟩ ck_is_shelf⟩
  have F_all_lead : ∀ k, 4 ≤ k → (M.kn k).FK "all_lead" 4 .fz 4 φ_all_lead := by
    obtain ⟨fd, F⟩ := d_all_lead
    intro k hk
    exact ⟨hk, fok_of (k := 3) hBL u_all_lead F sc_all_lead (fun _ _ _ _ _ _ us hl => match us, hl with | [_, _, _, _], _ => rfl) ⟨⟨⟨(F_link_fields 3 (by decide)), ⟨trivial, ⟨trivial, trivial⟩⟩⟩, ⟨⟨⟨⟨trivial, trivial⟩, trivial⟩, ⟨⟨⟨trivial, trivial⟩, ⟨trivial, trivial⟩, trivial⟩, trivial⟩, ⟨⟨⟨⟨trivial, trivial⟩, ⟨(F_keys_of 3 (by decide)), ⟨trivial, ⟨trivial, ⟨⟨trivial, trivial⟩, trivial⟩⟩⟩⟩⟩, ⟨trivial, trivial⟩, trivial⟩, trivial⟩⟩, trivial⟩⟩, ⟨trivial, trivial⟩⟩ ck_all_lead⟩
  have F_is_store : ∀ k, 7 ≤ k → (M.kn k).FK "is_store" 2 .fz 7 φ_is_store := by
    obtain ⟨fd, F⟩ := d_is_store
    intro k hk
    exact ⟨hk, fok_of (k := 6) hBL u_is_store F sc_is_store (fun _ _ _ _ _ _ us hl => match us, hl with | [_, _], _ => rfl) ⟨⟨⟨trivial, ⟨⟨trivial, trivial⟩, ⟨trivial, trivial⟩⟩⟩, ⟨trivial, trivial⟩, trivial⟩, ⟨⟨⟨⟨⟨(F_is_shelf 6 (by decide)), ⟨trivial, ⟨⟨trivial, trivial⟩, ⟨trivial, trivial⟩⟩⟩⟩, ⟨trivial, ⟨trivial, trivial⟩⟩, trivial⟩, trivial⟩, ⟨trivial, trivial⟩, trivial⟩, ⟨⟨⟨trivial, ⟨trivial, trivial⟩⟩, ⟨⟨⟨⟨⟨(F_all_lead 6 (by decide)), ⟨trivial, ⟨trivial, ⟨⟨trivial, trivial⟩, ⟨⟨trivial, trivial⟩, trivial⟩⟩⟩⟩⟩, ⟨trivial, trivial⟩, trivial⟩, trivial⟩, ⟨trivial, trivial⟩, trivial⟩, trivial⟩⟩, ⟨trivial, trivial⟩⟩⟩⟩ ck_is_store⟩
  have F_next_key : ∀ k, 3 ≤ k → (M.kn k).FK "next_key" 3 .fz 3 φ_next_key := by
    obtain ⟨fd, F⟩ := d_next_key
    intro k hk
    exact ⟨hk, fok_of (k := 2) hBL u_next_key F sc_next_key (fun _ _ _ _ _ _ us hl => match us, hl with | [_, _, _], _ => rfl) ⟨⟨⟨(F_shelf_of 2 (by decide)), ⟨trivial, ⟨trivial, ⟨trivial, trivial⟩⟩⟩⟩, trivial⟩, trivial⟩ ck_next_key⟩
  have F__law_goals : ∀ k, 1 ≤ k → (M.kn k).FK "_law_goals" 3 (.own .fz) 1 φ__law_goals := by
    obtain ⟨fd, F⟩ := d__law_goals
    intro k hk
    exact ⟨hk, fok_of (k := 0) hBL u__law_goals F sc__law_goals (fun _ _ _ _ _ _ us hl => match us, hl with | [_, _, _], _ => rfl) ⟨trivial, ⟨⟨⟨trivial, ⟨trivial, trivial⟩⟩, ⟨⟨⟨trivial, trivial⟩, ⟨⟨⟨trivial, ⟨trivial, trivial⟩⟩, ⟨⟨⟨⟨⟨trivial, trivial⟩, ⟨trivial, trivial⟩⟩, trivial⟩, ⟨⟨⟨⟨trivial, ⟨trivial, trivial⟩⟩, trivial⟩, ⟨⟨⟨trivial, trivial⟩, trivial⟩, ⟨trivial, trivial⟩⟩⟩, trivial⟩⟩, trivial⟩⟩, trivial⟩⟩, trivial⟩⟩, ⟨trivial, trivial⟩⟩⟩ ck__law_goals⟩
  have F__law_reached : ∀ k, 2 ≤ k → (M.kn k).FK "_law_reached" 3 .fz 2 φ__law_reached := by
    obtain ⟨fd, F⟩ := d__law_reached
    intro k hk
    exact ⟨hk, fok_of (k := 1) hBL u__law_reached F sc__law_reached (fun _ _ _ _ _ _ us hl => match us, hl with | [_, _, _], _ => rfl) ⟨⟨(F__law_goals 1 (by decide)), ⟨trivial, ⟨trivial, ⟨trivial, trivial⟩⟩⟩⟩, ⟨trivial, ⟨⟨⟨trivial, ⟨trivial, trivial⟩⟩, ⟨⟨trivial, trivial⟩, ⟨⟨⟨trivial, trivial⟩, ⟨⟨trivial, ⟨(F__law_goals 1 (by decide)), ⟨trivial, ⟨trivial, ⟨trivial, trivial⟩⟩⟩⟩, ⟨trivial, trivial⟩⟩, trivial⟩⟩, trivial⟩⟩⟩, ⟨⟨trivial, trivial⟩, trivial⟩⟩⟩⟩ ck__law_reached⟩
  exact fn_ok (k := 7) hBL F sc_law ⟨⟨(F__law_schema 7 (by decide)), ⟨trivial, ⟨trivial, trivial⟩⟩⟩, ⟨⟨(F__law_store 7 (by decide)), ⟨trivial, ⟨trivial, ⟨trivial, ⟨trivial, trivial⟩⟩⟩⟩⟩, ⟨⟨⟨(F__law_rows 7 (by decide)), ⟨trivial, ⟨trivial, trivial⟩⟩⟩, trivial⟩, ⟨⟨trivial, ⟨trivial, trivial⟩, ⟨⟨(F__law_pick 7 (by decide)), ⟨trivial, ⟨⟨trivial, trivial⟩, ⟨trivial, trivial⟩⟩⟩⟩, trivial⟩⟩, ⟨⟨(F_kept_from 7 (by decide)), ⟨trivial, ⟨trivial, ⟨⟨trivial, ⟨trivial, trivial, trivial⟩⟩, trivial⟩⟩⟩⟩, ⟨⟨⟨⟨(F_is_store 7 (by decide)), ⟨trivial, ⟨trivial, trivial⟩⟩⟩, trivial⟩, ⟨trivial, trivial⟩, trivial⟩, ⟨⟨trivial, trivial⟩, ⟨⟨trivial, ⟨⟨(F__law_reached 7 (by decide)), ⟨trivial, ⟨trivial, ⟨trivial, trivial⟩⟩⟩⟩, trivial⟩⟩, ⟨trivial, ⟨⟨⟨trivial, ⟨trivial, trivial⟩⟩, ⟨⟨⟨trivial, trivial⟩, ⟨⟨⟨trivial, ⟨trivial, trivial⟩, ⟨⟨⟨trivial, trivial⟩, ⟨⟨trivial, trivial⟩, trivial⟩⟩, trivial⟩⟩, trivial⟩, trivial⟩⟩, trivial⟩⟩, ⟨⟨⟨⟨trivial, ⟨trivial, trivial⟩⟩, ⟨⟨⟨(F_kept_from 7 (by decide)), ⟨trivial, ⟨trivial, ⟨⟨trivial, trivial⟩, trivial⟩⟩⟩⟩, trivial⟩, ⟨⟨(F_kept_from 7 (by decide)), ⟨trivial, ⟨trivial, ⟨trivial, trivial⟩⟩⟩⟩, trivial⟩⟩⟩, ⟨trivial, trivial⟩, trivial⟩, ⟨⟨trivial, ⟨⟨⟨⟨(F_rows_reached 7 (by decide)), ⟨trivial, ⟨trivial, ⟨trivial, ⟨trivial, trivial⟩⟩⟩⟩⟩, ⟨(F_rows_reached 7 (by decide)), ⟨trivial, ⟨trivial, ⟨trivial, ⟨trivial, trivial⟩⟩⟩⟩⟩⟩, ⟨trivial, trivial⟩, trivial⟩, ⟨⟨⟨⟨(F_row_in 7 (by decide)), ⟨trivial, ⟨trivial, ⟨trivial, ⟨trivial, trivial⟩⟩⟩⟩⟩, ⟨(F_row_in 7 (by decide)), ⟨trivial, ⟨trivial, ⟨trivial, ⟨trivial, trivial⟩⟩⟩⟩⟩⟩, ⟨trivial, trivial⟩, trivial⟩, trivial⟩⟩⟩, ⟨⟨⟨(F_row_counts 7 (by decide)), ⟨trivial, ⟨⟨(F_kept_from 7 (by decide)), ⟨trivial, ⟨trivial, ⟨trivial, trivial⟩⟩⟩⟩, trivial⟩⟩⟩, ⟨⟨(F_next_key 7 (by decide)), ⟨trivial, ⟨trivial, ⟨trivial, trivial⟩⟩⟩⟩, ⟨⟨⟨⟨trivial, trivial⟩, ⟨⟨(F_next_key 7 (by decide)), ⟨trivial, ⟨trivial, ⟨trivial, trivial⟩⟩⟩⟩, trivial⟩⟩, ⟨trivial, trivial⟩, trivial⟩, trivial⟩⟩⟩, ⟨⟨⟨⟨trivial, ⟨(F_row_counts 7 (by decide)), ⟨trivial, ⟨trivial, trivial⟩⟩⟩, trivial⟩, trivial⟩, trivial⟩, trivial⟩⟩⟩⟩⟩⟩⟩⟩⟩⟩⟩⟩⟩⟩ ck_law
end
end Wk
namespace Wk
open PySem PySem.Spec L2 Hr
theorem facts {P : Program} {w : World} {K : PySem.W.Frag} {h : Heap} {mg : PySem.Str → Option Value} {f : Addr} (X : K.In h) (G : h.Ns mainGlobals mg) (hfa : mg ("law" : PySem.Str) = some (.ref f)) (c : SaysX Hd.fa Hd.fn Hd.fx K)
    (hp : ∀ ns : List Int, ns.length ≤ 63 → φ_law [.arr (ns.map D.int)] = .ok (.bl true)) :
    ∃ (fd : FuncData) (sp : Sp), (∀ (s : Shared) (v : Value), BindsTo s fd ⟨[v], []⟩ [("script", v)]) ∧ (∀ (H : Hp) (a : Addr) (ns : List Int), ns.length ≤ 63 → Only H → SqL K H a (ns.map V.int) → sp [.ref a] H (fun v _ => v = .bl true) fun _ _ _ => False) ∧
      ∀ base : Heap, K.In base → base.Ns mainGlobals mg → FnOk P w K mg base (L2.CX P w) 8 f fd ["script"] sp := by
  have cd := c.d
  obtain ⟨fd, F⟩ := cd.def_ Hd.ix_law (d := Hd.d_law) rfl
  have e := hfa.symm.trans (He.glo_ok X G (cd.fact Hd.fx_law (f := .glo "law") rfl))
  cases e
  have b := FunD.bindsA (ps := ["script"]) F fun _ _ _ _ _ _ us hl => match us, hl with | [_], _ => rfl
  refine ⟨fd, _, fun s v => b s [v] rfl, fun H a ns hl _ hS => law_end hl hS (hp ns hl), fun base _ _ => ?_⟩
  refine walk (M := ⟨P, w, K, mg, base⟩) (fun x hx => ?_)
    (gk_int (He.int_ok X G (cd.fact Hd.fx_LONGEST_TEXT (f := .int "LONGEST_TEXT" (8)) rfl)))
    (gk_int (He.int_ok X G (cd.fact Hd.fx_TOP (f := .int "TOP" (9999)) rfl)))
    (let q := He.exc_ok (cd.fact Hd.fy_NoRow (f := .exc "NoRow") rfl); ⟨q.1, He.glo_ok X G (cd.fact Hd.fx_NoRow (f := .glo "NoRow") rfl), q.2.1, q.2.2⟩)
    (He.glo_ok X G (cd.fact Hd.fx__law_cell (f := .glo "_law_cell") rfl)) (cd.def_ Hd.ix__law_cell (d := Hd.d__law_cell) rfl)
    (He.glo_ok X G (cd.fact Hd.fx__law_pick (f := .glo "_law_pick") rfl)) (cd.def_ Hd.ix__law_pick (d := Hd.d__law_pick) rfl)
    (He.glo_ok X G (cd.fact Hd.fx__law_sort (f := .glo "_law_sort") rfl)) (cd.def_ Hd.ix__law_sort (d := Hd.d__law_sort) rfl)
    (He.glo_ok X G (cd.fact Hd.fx__law_schema (f := .glo "_law_schema") rfl)) (cd.def_ Hd.ix__law_schema (d := Hd.d__law_schema) rfl)
    (He.glo_ok X G (cd.fact Hd.fx__law_counts (f := .glo "_law_counts") rfl)) (cd.def_ Hd.ix__law_counts (d := Hd.d__law_counts) rfl)
    (He.glo_ok X G (cd.fact Hd.fx__law_plain (f := .glo "_law_plain") rfl)) (cd.def_ Hd.ix__law_plain (d := Hd.d__law_plain) rfl)
    (He.glo_ok X G (cd.fact Hd.fx__law_value (f := .glo "_law_value") rfl)) (cd.def_ Hd.ix__law_value (d := Hd.d__law_value) rfl)
    (He.glo_ok X G (cd.fact Hd.fx__law_store (f := .glo "_law_store") rfl)) (cd.def_ Hd.ix__law_store (d := Hd.d__law_store) rfl)
    (He.glo_ok X G (cd.fact Hd.fx_kind_names (f := .glo "kind_names") rfl)) (cd.def_ Hd.ix_kind_names (d := Hd.d_kind_names) rfl)
    (He.glo_ok X G (cd.fact Hd.fx_shelf_of (f := .glo "shelf_of") rfl)) (cd.def_ Hd.ix_shelf_of (d := Hd.d_shelf_of) rfl)
    (He.glo_ok X G (cd.fact Hd.fx_row_in (f := .glo "row_in") rfl)) (cd.def_ Hd.ix_row_in (d := Hd.d_row_in) rfl)
    (He.glo_ok X G (cd.fact Hd.fx_fields_of (f := .glo "fields_of") rfl)) (cd.def_ Hd.ix_fields_of (d := Hd.d_fields_of) rfl)
    (He.glo_ok X G (cd.fact Hd.fx_is_plain (f := .glo "is_plain") rfl)) (cd.def_ Hd.ix_is_plain (d := Hd.d_is_plain) rfl)
    (He.glo_ok X G (cd.fact Hd.fx_link_fields (f := .glo "link_fields") rfl)) (cd.def_ Hd.ix_link_fields (d := Hd.d_link_fields) rfl)
    (He.glo_ok X G (cd.fact Hd.fx_goals_of (f := .glo "goals_of") rfl)) (cd.def_ Hd.ix_goals_of (d := Hd.d_goals_of) rfl)
    (He.glo_ok X G (cd.fact Hd.fx_rows_reached (f := .glo "rows_reached") rfl)) (cd.def_ Hd.ix_rows_reached (d := Hd.d_rows_reached) rfl)
    (He.glo_ok X G (cd.fact Hd.fx_kept_from (f := .glo "kept_from") rfl)) (cd.def_ Hd.ix_kept_from (d := Hd.d_kept_from) rfl)
    (He.glo_ok X G (cd.fact Hd.fx_keys_of (f := .glo "keys_of") rfl)) (cd.def_ Hd.ix_keys_of (d := Hd.d_keys_of) rfl)
    (He.glo_ok X G (cd.fact Hd.fx_row_counts (f := .glo "row_counts") rfl)) (cd.def_ Hd.ix_row_counts (d := Hd.d_row_counts) rfl)
    (He.glo_ok X G (cd.fact Hd.fx__law_rows (f := .glo "_law_rows") rfl)) (cd.def_ Hd.ix__law_rows (d := Hd.d__law_rows) rfl)
    (He.glo_ok X G (cd.fact Hd.fx_is_whole (f := .glo "is_whole") rfl)) (cd.def_ Hd.ix_is_whole (d := Hd.d_is_whole) rfl)
    (He.glo_ok X G (cd.fact Hd.fx_is_text (f := .glo "is_text") rfl)) (cd.def_ Hd.ix_is_text (d := Hd.d_is_text) rfl)
    (He.glo_ok X G (cd.fact Hd.fx_is_plain_value (f := .glo "is_plain_value") rfl)) (cd.def_ Hd.ix_is_plain_value (d := Hd.d_is_plain_value) rfl)
    (He.glo_ok X G (cd.fact Hd.fx_is_store_value (f := .glo "is_store_value") rfl)) (cd.def_ Hd.ix_is_store_value (d := Hd.d_is_store_value) rfl)
    (He.glo_ok X G (cd.fact Hd.fx_are_values (f := .glo "are_values") rfl)) (cd.def_ Hd.ix_are_values (d := Hd.d_are_values) rfl)
    (He.glo_ok X G (cd.fact Hd.fx_is_row (f := .glo "is_row") rfl)) (cd.def_ Hd.ix_is_row (d := Hd.d_is_row) rfl)
    (He.glo_ok X G (cd.fact Hd.fx_is_shelf (f := .glo "is_shelf") rfl)) (cd.def_ Hd.ix_is_shelf (d := Hd.d_is_shelf) rfl)
    (He.glo_ok X G (cd.fact Hd.fx_all_lead (f := .glo "all_lead") rfl)) (cd.def_ Hd.ix_all_lead (d := Hd.d_all_lead) rfl)
    (He.glo_ok X G (cd.fact Hd.fx_is_store (f := .glo "is_store") rfl)) (cd.def_ Hd.ix_is_store (d := Hd.d_is_store) rfl)
    (He.glo_ok X G (cd.fact Hd.fx_next_key (f := .glo "next_key") rfl)) (cd.def_ Hd.ix_next_key (d := Hd.d_next_key) rfl)
    (He.glo_ok X G (cd.fact Hd.fx__law_goals (f := .glo "_law_goals") rfl)) (cd.def_ Hd.ix__law_goals (d := Hd.d__law_goals) rfl)
    (He.glo_ok X G (cd.fact Hd.fx__law_reached (f := .glo "_law_reached") rfl)) (cd.def_ Hd.ix__law_reached (d := Hd.d__law_reached) rfl)
    F
  · exact He.free_ok X G (cd.facts (f := .free x) (free_in (by decide +kernel) hx))
end Wk
end
section
open Hr PySem
namespace Pu
theorem pls_ints : ∀ ns : List Int, D.pls (ns.map D.int) = true
  | [] => rfl
  | n :: ns => by show (D.pl (.int n) && D.pls (ns.map D.int)) = true; rw [pls_ints ns]; rfl
/-- the script -/
abbrev A (ns : List Int) : D := .arr (ns.map D.int)
theorem A_nil (ns : List Int) : dEq (A ns) (.lst []) = .ok ns.isEmpty := by
  unfold dEq
  have h1 : (A ns).pl = true := pls_ints ns
  have h2 : (D.lst []).pl = true := rfl
  have h3 : (D.lst []).dep ≤ 60 := by decide
  rw [h1, h2, if_pos (by simp; omega)]
  cases ns with
  | nil => rfl
  | cons n ns => rfl
theorem A_sub {ns : List Int} {k : Nat} {c : Int} (h : ns[k]? = some c) : dSub2 (A ns) (.int (k : Int)) = .ok (.int c) := sub_a (by rw [List.getElem?_map, h]; rfl)
end Pu

end
section
open Hr Wk PySem
namespace Pu
theorem cell_ok (ns : List Int) (k : Nat) : ∃ c, φ__law_cell [A ns, .int k] = .ok (.int c) := by
  unfold φ__law_cell runS ir__law_cell
  by_cases hk : k < ns.length
  · have hS : ns[k]? = some ns[k] := by simp [hk]
    have hs := A_sub hS
    have hd : decide ((k : Int) < (ns.length : Int)) = true := decide_eq_true (by omega)
    refine ⟨ns[k], ?_⟩
    simp [eVar, hk, hs]
  · by_cases he : ns = []
    · subst he
      refine ⟨0, ?_⟩
      have := A_nil []
      simp at this
      have h0 : decide ((k : Int) < 0) = false := by simp
      simp [eVar, this, h0]
    · have hp : 0 < ns.length := List.length_pos_iff.mpr he
      have hm : k % ns.length < ns.length := Nat.mod_lt _ hp
      have hS : ns[k % ns.length]? = some ns[k % ns.length] := by simp [hm]
      have ha := A_nil ns
      have hi : ns.isEmpty = false := by cases ns with | nil => exact absurd rfl he | cons _ _ => rfl
      rw [hi] at ha
      refine ⟨ns[k % ns.length] * 31 + k, ?_⟩
      have hs := A_sub hS
      simp [eVar, hk, ha, mod_i (show (0 : Int) < ns.length by omega), ← Int.natCast_emod, hs, mul_r (show nrw 31 = true by decide)]
theorem pick_ok (ns : List Int) (k : Nat) {m : Int} (hm : 0 < m) : ∃ c, φ__law_pick [A ns, .int k, .int m] = .ok (.int c) ∧ 0 ≤ c ∧ c < m := by
  obtain ⟨c, hc⟩ := cell_ok ns k
  unfold φ__law_pick runS ir__law_pick
  generalize hd : (c + 6151 * ((k : Int) + 1)) * 40692 % 2147483399 = d
  have hn : nrw d = true := by unfold nrw; exact decide_eq_true (by omega)
  refine ⟨(d * d + d / 31) % 2147483629 % m, ?_, Int.emod_nonneg _ (by omega), Int.emod_lt_of_pos _ hm⟩
  simp [eVar, hc, ftName, mul_l (show nrw 6151 = true by decide), mul_r (show nrw 40692 = true by decide), mod_i (show (0 : Int) < 2147483399 by decide), mod_i (show (0 : Int) < 2147483629 by decide), mod_i hm, hd, div_i (show (0:Int) < 31 by decide) (by decide), mul_r hn]
/-- a sort as it is drawn -/
inductive Srt where
  | num | txt | lnk (g : Str) (may : Bool) (rule : Str)
def Srt.d : Srt → D
  | .num => .str "number"
  | .txt => .str "text"
  | .lnk g m r => .tup [.str "link", .str g, .bl m, .str r]
def Srt.goal : Srt → Option Str
  | .lnk g _ _ => some g
  | _ => none
theorem sub_ls {xs : List D} {i : Int} {n : Nat} (h : xs.length = n) (h0 : 0 ≤ i) (h1 : i < n) : ∃ x, dSub2 (.lst xs) (.int i) = .ok x ∧ xs[i.toNat]? = some x := by
  have hk : i.toNat < xs.length := by omega
  have e : ((i.toNat : Nat) : Int) = i := by omega
  have := sub_l (List.getElem?_eq_getElem hk)
  rw [e] at this
  exact ⟨_, this, List.getElem?_eq_getElem hk⟩
theorem sort_ok (ns : List Int) (k : Nat) {names : List Str} (hn : names ≠ []) : ∃ s : Srt, φ__law_sort [A ns, .int k, .lst (names.map D.str)] = .ok s.d ∧ (∀ g, s.goal = some g → g ∈ names) ∧ (∀ g m r, s = .lnk g m r → (r = "bar" ∨ r = "none" ∨ r = "along") ∧ (r = "none" → m = true)) := by
  obtain ⟨w, hw, w0, w1⟩ := pick_ok ns k (m := 7) (by decide)
  obtain ⟨a, ha, a0, a1⟩ := pick_ok ns (k + 1) (m := 3) (by decide)
  obtain ⟨b, hb, b0, b1⟩ := pick_ok ns (k + 2) (m := 3) (by decide)
  have hl : 0 < names.length := List.length_pos_iff.mpr hn
  obtain ⟨c, hc, c0, c1⟩ := pick_ok ns (k + 3) (m := names.length) (by omega)
  have ha' : φ__law_pick [A ns, .int ((k : Int) + 1), .int 3] = .ok (.int a) := ha
  have hb' : φ__law_pick [A ns, .int ((k : Int) + 2), .int 3] = .ok (.int b) := hb
  have hc' : φ__law_pick [A ns, .int ((k : Int) + 3), .int (names.length : Int)] = .ok (.int c) := hc
  obtain ⟨g, hg1, hg2⟩ := sub_ls (xs := names.map D.str) (i := c) (n := names.length) (by simp) c0 c1
  have hgm : ∃ gs, g = .str gs ∧ gs ∈ names := by
    rw [List.getElem?_map] at hg2
    cases q : names[c.toNat]? with
    | none => rw [q] at hg2; cases hg2
    | some gs => rw [q] at hg2; cases hg2; exact ⟨gs, rfl, List.mem_of_getElem? q⟩
  obtain ⟨gs, rfl, hgm⟩ := hgm
  unfold φ__law_sort runS ir__law_sort
  by_cases h3 : w < 3
  · have : w = 0 ∨ w = 1 ∨ w = 2 := by omega
    rcases this with rfl | rfl | rfl
    · exact ⟨.num, by simp [eVar, hw, ftName, sizeLine_eq, Srt.d], by simp [Srt.goal], by simp⟩
    · exact ⟨.num, by simp [eVar, hw, ftName, sizeLine_eq, Srt.d], by simp [Srt.goal], by simp⟩
    · exact ⟨.txt, by simp [eVar, hw, ftName, sizeLine_eq, Srt.d], by simp [Srt.goal], by simp⟩
  · have n1 : (Str.ofString "bar" == Str.ofString "none") = false := by decide +kernel
    have n2 : (Str.ofString "along" == Str.ofString "none") = false := by decide +kernel
    have h4 : decide (w < 3) = false := decide_eq_false h3
    have : b = 0 ∨ b = 1 ∨ b = 2 := by omega
    rcases this with rfl | rfl | rfl
    · refine ⟨.lnk gs (decide (0 < a)) "bar", by simp [eVar, hw, h4, ha', hb', hc', hg1, ftName, sizeLine_eq, Srt.d, n1], by simpa [Srt.goal] using hgm, ?_⟩
      rintro g m r ⟨⟩
      exact ⟨.inl rfl, fun z => absurd z (by decide +kernel)⟩
    · by_cases hm : 0 < a
      · refine ⟨.lnk gs true "none", by simp [eVar, hw, h4, ha', hb', hc', hg1, ftName, sizeLine_eq, Srt.d, hm], by simpa [Srt.goal] using hgm, ?_⟩
        rintro g m r ⟨⟩
        exact ⟨.inr (.inl rfl), fun _ => rfl⟩
      · refine ⟨.lnk gs false "bar", by simp [eVar, hw, h4, ha', hb', hc', hg1, ftName, sizeLine_eq, Srt.d, hm], by simpa [Srt.goal] using hgm, ?_⟩
        rintro g m r ⟨⟩
        exact ⟨.inl rfl, fun z => absurd z (by decide +kernel)⟩
    · refine ⟨.lnk gs (decide (0 < a)) "along", by simp [eVar, hw, h4, ha', hb', hc', hg1, ftName, sizeLine_eq, Srt.d, n2], by simpa [Srt.goal] using hgm, ?_⟩
      rintro g m r ⟨⟩
      exact ⟨.inr (.inr rfl), fun z => absurd z (by decide +kernel)⟩
abbrev Fld := Str × Srt
abbrev Knd := Str × List Fld
def fldD (f : Fld) : D := .tup [.str f.1, f.2.d]
def kndD (k : Knd) : D := .tup [.str k.1, .tup (k.2.map fldD)]
def schD (s : List Knd) : D := .tup (s.map kndD)
def six : List (List Str) := [["oak"], ["oak", "a"], ["oak", "a", "zzzzzz"], ["a"], ["a", "zzzzzz"], ["a", "zzzzzz", "elm"]]
def srtWf (names : List Str) (s : Srt) : Prop := (∀ g, s.goal = some g → g ∈ names) ∧ (∀ g m r, s = .lnk g m r → (r = "bar" ∨ r = "none" ∨ r = "along") ∧ (r = "none" → m = true))
def rch (k : Nat) : Str := ⟨#[("rpsq" : Str).cps.getD k 0]⟩
def fname (j k : Nat) : Str := rept (rch k) (1 + j)
theorem rpsq_at {k : Nat} (h : k < 4) : dSub2 (.str "rpsq") (.int (k : Int)) = .ok (.str (rch k)) := by
  have : k = 0 ∨ k = 1 ∨ k = 2 ∨ k = 3 := by omega
  rcases this with rfl | rfl | rfl | rfl <;> rfl
theorem names_ok {p q : Int} (hp : 0 ≤ p ∧ p < 2) (hq : 0 ≤ q ∧ q < 3) : ∃ names ∈ six, (dSl (.lst [.str "oak", .str "a", .str "zzzzzz", .str "elm"]) (some p) none >>= fun x => dSl x none (some (1 + q))) = .ok (.lst (names.map D.str)) := by
  have hp : p = 0 ∨ p = 1 := by omega
  have hq : q = 0 ∨ q = 1 ∨ q = 2 := by omega
  rcases hp with rfl | rfl <;> rcases hq with rfl | rfl | rfl
  · exact ⟨["oak"], by simp [six], rfl⟩
  · exact ⟨["oak", "a"], by simp [six], rfl⟩
  · exact ⟨["oak", "a", "zzzzzz"], by simp [six], rfl⟩
  · exact ⟨["a"], by simp [six], rfl⟩
  · exact ⟨["a", "zzzzzz"], by simp [six], rfl⟩
  · exact ⟨["a", "zzzzzz", "elm"], by simp [six], rfl⟩
theorem six_facts {names : List Str} (h : names ∈ six) : names ≠ [] ∧ names.length ≤ 3 ∧ names.Nodup := by
  simp only [six, List.mem_cons, List.not_mem_nil, or_false] at h
  rcases h with rfl | rfl | rfl | rfl | rfl | rfl <;> exact ⟨by simp, by simp, by decide +kernel⟩
theorem zipIdx_at {α : Type} {l : List α} {pre post : List (α × Nat)} {x : α} {j : Nat} (h : l.zipIdx = pre ++ (x, j) :: post) : j = pre.length ∧ l[j]? = some x ∧ pre.length < l.length := by
  have e : l.zipIdx[pre.length]? = some (x, j) := by rw [h, List.getElem?_append_right (Nat.le_refl _), Nat.sub_self]; rfl
  rw [List.getElem?_zipIdx] at e
  cases q : l[pre.length]? with
  | none => rw [q] at e; cases e
  | some y =>
    rw [q] at e
    simp at e
    obtain ⟨rfl, rfl⟩ := e
    exact ⟨rfl, q, (List.getElem?_eq_some_iff.mp q).1⟩
def kndWf (names : List Str) (j : Nat) (kd : Knd) : Prop := 1 ≤ kd.2.length ∧ kd.2.length ≤ 4 ∧ ∀ (k : Nat) (f : Fld), kd.2[k]? = some f → f.1 = fname j k ∧ srtWf names f.2
theorem mul_str (x : Str) {j : Nat} (h : j ≤ 1000) (hx : x.length ≤ 1000) : dMul (.str x) (.int (j : Int)) = .ok (.str (rept x j)) := by
  show (if _ then _ else _) = _
  rw [if_pos ⟨by omega, by omega, hx⟩]
  rfl
def ISch (ns : List Int) (a : Nat) (names : List Str) (pre : List (Str × Nat)) (s : En) : Prop := ∃ (x4 x5 x6 x7 x8 : Option D) (ks : List Knd), s = [some (A ns), some (.int a), some (.lst (names.map D.str)), some (.lst (ks.map kndD)), x4, x5, x6, x7, x8] ∧ ks.map (·.1) = pre.map (·.1) ∧ ∀ (j : Nat) (kd : Knd), ks[j]? = some kd → kndWf names j kd
theorem schema_step (ns : List Int) (a : Nat) {names : List Str} (n1 : names ≠ []) (n2 : names.length ≤ 3) (pre : List (Str × Nat)) (b : Str × Nat) (post : List (Str × Nat)) (s : En) (hx : names.zipIdx = pre ++ b :: post) (hi : ISch ns a names pre s) :
    ∃ s2, turnD (tgd (.tp (.cons (.nm 4) (.cons (.nm 5) .nil)))).f (dS L__law_schema_0) (D.tup [.int (b.2 : Nat), .str b.1]) s = .nx s2 ∧ ISch ns a names (pre ++ [b]) s2 := by
  obtain ⟨nm, j⟩ := b
  obtain ⟨x4, x5, x6, x7, x8, ks, rfl, e2, e3⟩ := hi
  obtain ⟨hj, hnm, hlt⟩ := zipIdx_at hx
  have hkl : ks.length = pre.length := by have := congrArg List.length e2; simpa using this
  obtain ⟨m, hm, m0, m1⟩ := pick_ok ns (a + 2 + 20 * j) (m := 4) (by decide)
  have hm' : φ__law_pick [A ns, .int ((a : Int) + 2 + 20 * (j : Int)), .int 4] = .ok (.int m) := by
    have e : ((a + 2 + 20 * j : Nat) : Int) = (a : Int) + 2 + 20 * (j : Int) := by omega
    rw [← e]; exact hm
  obtain ⟨mm, rfl⟩ : ∃ mm : Nat, m = mm := ⟨m.toNat, by omega⟩
  have turn : ∀ k ∈ List.range (1 + mm), ∃ f : Fld, lcT (tgd (.nm 8)).f (den .no).t (den E__law_schema_0).v [some (A ns), some (.int a), some (.lst (names.map D.str)), some (.lst (ks.map kndD)), some (.int j), some (.str nm), some (.int (1 + (mm : Int))), x7, none] (.int (k : Nat)) = .ok (some (fldD f)) ∧ (f.1 = fname j k ∧ srtWf names f.2) := by
    intro k hk
    have hk4 : k < 4 := by have := List.mem_range.mp hk; omega
    obtain ⟨st, hs, hw⟩ := sort_ok ns (a + 3 + 20 * j + 4 * k) n1
    have hs' : φ__law_sort [A ns, .int ((a : Int) + 3 + 20 * (j : Int) + 4 * (k : Int)), .lst (names.map D.str)] = .ok st.d := by
      have e : ((a + 3 + 20 * j + 4 * k : Nat) : Int) = (a : Int) + 3 + 20 * (j : Int) + 4 * (k : Int) := by omega
      rw [← e]; exact hs
    refine ⟨(fname j k, st), ?_, rfl, hw⟩
    have hmul : dMul (.str (rch k)) (.int (1 + (j : Int))) = .ok (.str (fname j k)) := by
      have e : (1 + (j : Int)) = ((1 + j : Nat) : Int) := by omega
      rw [e]
      exact mul_str _ (by omega) (by show 1 ≤ 1000; decide)
    simp [lcT, ftName, E__law_schema_0, eVar, rpsq_at hk4, hmul, hs', mul_l (show nrw 20 = true by decide), mul_l (show nrw 4 = true by decide), sizeLine_eq, fldD]
  obtain ⟨fs, g1, g2, g3⟩ := lcA_ex (f := fun k : Nat => D.int (k : Int)) (e := fldD) turn
  have hr := rngA_nat (n := 1 + mm) (by omega)
  have e1 : ((1 + mm : Nat) : Int) = 1 + (mm : Int) := by omega
  rw [e1] at hr
  have hlen : ks.length < 16777216 := by omega
  refine ⟨[some (A ns), some (.int a), some (.lst (names.map D.str)), some (.lst ((ks ++ [(nm, fs)]).map kndD)), some (.int j), some (.str nm), some (.int (1 + (mm : Int))), some (.lst (fs.map fldD)), x8], ?_, ?_⟩
  · simp [turnD, L__law_schema_0, wipeE, eVar, hm', mul_l (show nrw 20 = true by decide), ftName, hr, g1, lstAt, optO, sizeLine_eq, hlen, kndD]
  · refine ⟨_, _, _, _, _, ks ++ [(nm, fs)], rfl, by simp [e2], fun i kd h => ?_⟩
    by_cases hi : i < ks.length
    · rw [List.getElem?_append_left hi] at h
      exact e3 i kd h
    · rw [List.getElem?_append_right (by omega)] at h
      have hi0 : i - ks.length = 0 := by
        cases q : i - ks.length with
        | zero => rfl
        | succ _ => rw [q] at h; simp at h
      rw [hi0] at h
      simp at h
      subst h
      have hij : i = j := by omega
      subst hij
      rw [List.length_range] at g2
      refine ⟨by show 1 ≤ fs.length; omega, by show fs.length ≤ 4; omega, fun k f hf => ?_⟩
      have hk : k < fs.length := (List.getElem?_eq_some_iff.mp hf).1
      exact g3 k k f (by rw [List.getElem?_range (by omega)]) hf
theorem schema_ok (ns : List Int) (a : Nat) : ∃ sch : List Knd, φ__law_schema [A ns, .int a] = .ok (schD sch) ∧ sch.map (·.1) ∈ six ∧ ∀ (j : Nat) (kd : Knd), sch[j]? = some kd → kndWf (sch.map (·.1)) j kd := by
  obtain ⟨p, hp, p0, p1⟩ := pick_ok ns a (m := 2) (by decide)
  obtain ⟨q, hq, q0, q1⟩ := pick_ok ns (a + 1) (m := 3) (by decide)
  have hq' : φ__law_pick [A ns, .int ((a : Int) + 1), .int 3] = .ok (.int q) := hq
  obtain ⟨names, hn, hN⟩ := names_ok ⟨p0, p1⟩ ⟨q0, q1⟩
  obtain ⟨n1, n2, n3⟩ := six_facts hn
  obtain ⟨s', h1, x4, x5, x6, x7, x8, ks, rfl, e2, e3⟩ := forD_run (I := ISch ns a names) (s := [some (A ns), some (.int a), some (.lst (names.map D.str)), some (.lst []), none, none, none, none, none])
    ⟨none, none, none, none, none, [], rfl, rfl, fun j kd h => by simp at h⟩ (schema_step ns a n1 n2)
  have e2 : ks.map (·.1) = names := by rw [e2]; simp
  refine ⟨ks, ?_, by rw [e2]; exact hn, by rw [e2]; exact e3⟩
  unfold φ__law_schema runS ir__law_schema
  simp [eVar, hp, hq', ftName, sizeLine_eq, hN, enumL_map, h1, schD]
end Pu

end
section
open Hr Wk PySem
namespace Pu
/-! ### counts -/
def cdic (names : List Str) (v : Str → D) : D := .dic false (names.map fun n => [Sum.inr n]) (names.map v)
theorem look_cdic {names : List Str} {v : Str → D} {g : Str} (h : g ∈ names) : lookK (names.map fun n => [Sum.inr n]) (names.map v) [Sum.inr g] = some (v g) := by
  induction names with
  | nil => cases h
  | cons n ns ih =>
    show (if [Sum.inr n] = [Sum.inr g] then some (v n) else lookK (ns.map fun n => [Sum.inr n]) (ns.map v) [Sum.inr g]) = _
    by_cases q : n = g
    · subst q; rw [if_pos rfl]
    · rw [if_neg (by simpa using q)]
      exact ih (by rcases List.mem_cons.mp h with e | e; exact absurd e.symm q; exact e)
theorem sub_cdic {names : List Str} {v : Str → D} {g : Str} (h : g ∈ names) : dSub2 (cdic names v) (.str g) = .ok (v g) := by
  show R.of ((keyOf false (.str g)).bind fun k => lookK _ _ k) = _
  show R.of (lookK _ _ [Sum.inr g]) = _
  rw [look_cdic h]; rfl
def fput {α : Type} (v : Str → α) (n : Str) (x : α) : Str → α := fun m => if m = n then x else v m
theorem setAll_cdic (names : List Str) (v : Str → D) (g : Str) (d : D) : setAll [Sum.inr g] d (names.map fun n => [Sum.inr n]) (names.map v) = names.map (fput v g d) := by
  induction names with
  | nil => rfl
  | cons n ns ih =>
    show (if [Sum.inr n] = [Sum.inr g] then d else v n) :: setAll _ _ _ _ = fput v g d n :: _
    rw [ih]
    unfold fput
    by_cases q : n = g
    · subst q; simp
    · simp [q]
theorem put_old {names : List Str} {v : Str → D} {g : Str} {d : D} (h : g ∈ names) : putD (names.map fun n => [Sum.inr n]) (names.map v) [Sum.inr g] d = (names.map fun n => [Sum.inr n], names.map (fput v g d)) := by
  unfold putD
  rw [if_pos, setAll_cdic]
  exact List.any_eq_true.mpr ⟨[Sum.inr g], List.mem_map.mpr ⟨g, h, rfl⟩, by simp⟩
theorem put_new {names : List Str} {v : Str → D} {g : Str} {d : D} (h : g ∉ names) : putD (names.map fun n => [Sum.inr n]) (names.map v) [Sum.inr g] d = ((names ++ [g]).map fun n => [Sum.inr n], (names ++ [g]).map (fput v g d)) := by
  unfold putD
  rw [if_neg]
  · have : names.map v = names.map (fput v g d) := by
      apply List.map_congr_left
      intro n hn
      unfold fput
      rw [if_neg fun e => h (by rw [← e]; exact hn)]
    rw [this]
    simp [fput]
  · intro z
    obtain ⟨k, hk, e⟩ := List.any_eq_true.mp z
    obtain ⟨n, hn, rfl⟩ := List.mem_map.mp hk
    have : n = g := by simpa using of_decide_eq_true e
    exact h (by rw [← this]; exact hn)
def cD (c : Str → Nat) : Str → D := fun n => .int (c n : Nat)
theorem cD_put (c : Str → Nat) (g : Str) (x : Nat) : fput (cD c) g (.int (x : Nat)) = cD (fput c g x) := by
  funext m
  show (if m = g then D.int x else .int (c m : Nat)) = D.int ((if m = g then x else c m : Nat) : Int)
  split <;> rfl
/-! one round -/
def st1 (nm : Str) (c : Str → Nat) (s : Srt) : Str → Nat := match s with
  | .lnk g false _ => if c g = 0 then fput c nm 0 else c
  | _ => c
def stK (c : Str → Nat) (kd : Knd) : Str → Nat := kd.2.foldl (fun c f => st1 kd.1 c f.2) c
def stR (sch : List Knd) (c : Str → Nat) : Str → Nat := sch.foldl stK c
theorem st1_le (nm : Str) (c : Str → Nat) (s : Srt) (m : Str) : st1 nm c s m = c m ∨ (st1 nm c s m = 0 ∧ m = nm) := by
  unfold st1
  split
  · split
    · unfold fput
      split
      · exact .inr ⟨rfl, by assumption⟩
      · exact .inl rfl
    · exact .inl rfl
  · exact .inl rfl
theorem foldl_le {α : Type} (f : (Str → Nat) → α → (Str → Nat)) (h : ∀ c a m, f c a m ≤ c m) : ∀ (l : List α) (c : Str → Nat) (m : Str), l.foldl f c m ≤ c m
  | [], c, m => Nat.le_refl _
  | a :: l, c, m => Nat.le_trans (foldl_le f h l (f c a) m) (h c a m)
theorem st1_le' (nm : Str) (c : Str → Nat) (s : Srt) (m : Str) : st1 nm c s m ≤ c m := by
  rcases st1_le nm c s m with e | ⟨e, _⟩ <;> omega
theorem stK_le (c : Str → Nat) (kd : Knd) (m : Str) : stK c kd m ≤ c m := foldl_le (fun c (f : Fld) => st1 kd.1 c f.2) (fun c f m => st1_le' kd.1 c f.2 m) kd.2 c m
theorem stR_le (sch : List Knd) (c : Str → Nat) (m : Str) : stR sch c m ≤ c m := foldl_le _ stK_le sch c m
/-- what must lead somewhere does -/
def Closed (sch : List Knd) (c : Str → Nat) : Prop := ∀ kd ∈ sch, ∀ f ∈ kd.2, ∀ g r, f.2 = .lnk g false r → c g = 0 → c kd.1 = 0
theorem foldl_mid {α : Type} {f : (Str → Nat) → α → (Str → Nat)} (h : ∀ c a m, f c a m ≤ c m) {l : List α} {c : Str → Nat} (e : l.foldl f c = c) : ∀ a ∈ l, f c a = c := by
  induction l with
  | nil => intro a m; cases m
  | cons b l ih =>
    have e1 : l.foldl f (f c b) = c := e
    have e2 : f c b = c := by
      funext m
      have h1 := foldl_le f h l (f c b) m
      rw [e1] at h1
      have h2 := h c b m
      omega
    intro a hm
    rcases List.mem_cons.mp hm with q | q
    · rw [q]; exact e2
    · rw [e2] at e1
      exact ih e1 a q
theorem closed_of {sch : List Knd} {c : Str → Nat} (e : stR sch c = c) : Closed sch c := by
  intro kd hk f hf g r hs hg
  have h1 : stK c kd = c := foldl_mid stK_le e kd hk
  have h2 : st1 kd.1 c f.2 = c := foldl_mid (f := fun c (f : Fld) => st1 kd.1 c f.2) (fun c f m => st1_le' kd.1 c f.2 m) h1 f hf
  rw [← h2, hs]
  show (if c g = 0 then fput c kd.1 0 else c) kd.1 = 0
  rw [if_pos hg]
  unfold fput
  rw [if_pos rfl]
theorem st_zero {α : Type} {f : (Str → Nat) → α → (Str → Nat)} (h : ∀ c a m, f c a m = c m ∨ f c a m = 0) : ∀ (l : List α) (c : Str → Nat) (m : Str), l.foldl f c m = c m ∨ l.foldl f c m = 0
  | [], c, m => .inl rfl
  | a :: l, c, m => by
    rcases st_zero h l (f c a) m with e | e
    · rcases h c a m with q | q
      · exact .inl (e.trans q)
      · exact .inr (e.trans q)
    · exact .inr e
theorem stK_zero (c : Str → Nat) (kd : Knd) (m : Str) : stK c kd m = c m ∨ stK c kd m = 0 := st_zero (f := fun c (f : Fld) => st1 kd.1 c f.2) (fun c f m => (st1_le kd.1 c f.2 m).imp id fun z => z.1) kd.2 c m
theorem stK_out {kd : Knd} {m : Str} (hm : m ≠ kd.1) (c : Str → Nat) : stK c kd m = c m := by
  unfold stK
  generalize kd.2 = fs
  induction fs generalizing c with
  | nil => rfl
  | cons f fs ih =>
    show fs.foldl _ (st1 kd.1 c f.2) m = _
    rw [ih]
    rcases st1_le kd.1 c f.2 m with e | ⟨_, e⟩
    · exact e
    · exact absurd e hm
theorem stR_out {sch : List Knd} {m : Str} (hm : m ∉ sch.map (·.1)) (c : Str → Nat) : stR sch c m = c m := by
  unfold stR
  induction sch generalizing c with
  | nil => rfl
  | cons kd sch ih =>
    show sch.foldl stK (stK c kd) m = _
    rw [ih (fun z => hm (List.mem_cons_of_mem _ z)), stK_out (fun z => hm (by rw [z]; exact List.mem_cons_self ..))]
def nz : List Str → (Str → Nat) → Nat
  | [], _ => 0
  | n :: l, c => (if c n = 0 then 0 else 1) + nz l c
theorem nz_le (c : Str → Nat) : ∀ l : List Str, nz l c ≤ l.length
  | [] => Nat.le_refl _
  | n :: l => by have := nz_le c l; unfold nz; rw [List.length_cons]; split <;> omega
theorem nz_mono {c c' : Str → Nat} (h : ∀ m, c' m = c m ∨ c' m = 0) : ∀ l : List Str, nz l c' ≤ nz l c
  | [] => Nat.le_refl _
  | n :: l => by
    have := nz_mono h l
    unfold nz
    rcases h n with e | e
    · rw [e]; omega
    · rw [e, if_pos rfl]; omega
theorem nz_lt {c c' : Str → Nat} (h : ∀ m, c' m = c m ∨ c' m = 0) {n : Str} (h1 : c n ≠ 0) (h2 : c' n = 0) : ∀ {names : List Str}, n ∈ names → nz names c' < nz names c
  | m :: l, hn => by
    unfold nz
    rcases List.mem_cons.mp hn with e | e
    · subst e
      have := nz_mono h l
      rw [h2, if_pos rfl, if_neg h1]
      omega
    · have := nz_lt h h1 h2 e
      rcases h m with q | q
      · rw [q]; omega
      · rw [q, if_pos rfl]; omega
theorem nz_zero {c : Str → Nat} : ∀ {names : List Str}, nz names c = 0 → ∀ n ∈ names, c n = 0
  | m :: l, h, n, hn => by
    unfold nz at h
    rcases List.mem_cons.mp hn with e | e
    · subst e
      by_cases q : c n = 0
      · exact q
      · rw [if_neg q] at h; omega
    · exact nz_zero (by omega) n e
def rounds (sch : List Knd) (c : Str → Nat) : Nat → (Str → Nat)
  | 0 => c
  | k + 1 => stR sch (rounds sch c k)
theorem rounds_nz (sch : List Knd) (c : Str → Nat) : ∀ k, stR sch (rounds sch c k) = rounds sch c k ∨ nz (sch.map (·.1)) (rounds sch c k) + k ≤ sch.length
  | 0 => .inr (by have := nz_le (rounds sch c 0) (sch.map (·.1)); rw [List.length_map] at this; omega)
  | k + 1 => by
    by_cases e : stR sch (rounds sch c k) = rounds sch c k
    · left
      show stR sch (stR sch (rounds sch c k)) = stR sch (rounds sch c k)
      rw [e, e]
    · right
      rcases rounds_nz sch c k with q | q
      · exact absurd q e
      · have : ∃ n, stR sch (rounds sch c k) n ≠ rounds sch c k n := by
          apply Classical.byContradiction
          intro z
          exact e (funext fun n => Classical.byContradiction fun w => z ⟨n, w⟩)
        obtain ⟨n, hn⟩ := this
        have hm : n ∈ sch.map (·.1) := Classical.byContradiction fun z => hn (stR_out z _)
        have hz : ∀ m, stR sch (rounds sch c k) m = rounds sch c k m ∨ stR sch (rounds sch c k) m = 0 := fun m => st_zero stK_zero sch (rounds sch c k) m
        have h0 : stR sch (rounds sch c k) n = 0 := (hz n).resolve_left hn
        have := nz_lt hz (fun z => hn (by rw [h0, z])) h0 hm
        show nz _ (stR sch (rounds sch c k)) + (k + 1) ≤ _
        omega
theorem rounds_closed (sch : List Knd) (c : Str → Nat) : Closed sch (rounds sch c sch.length) := by
  rcases rounds_nz sch c sch.length with e | e
  · exact closed_of e
  · intro kd hk f hf g r hs hg
    have h0 : nz (sch.map (·.1)) (rounds sch c sch.length) = 0 := by omega
    exact nz_zero h0 kd.1 (List.mem_map.mpr ⟨kd, hk, rfl⟩)
theorem rounds_le (sch : List Knd) (c : Str → Nat) (m : Str) : ∀ k, rounds sch c k m ≤ c m
  | 0 => Nat.le_refl _
  | k + 1 => Nat.le_trans (stR_le _ _ _) (rounds_le sch c m k)
/-! the loops -/
def IC0 (ns : List Int) (a most : Nat) (sch : List Knd) (pre : List (Knd × Nat)) (s : En) : Prop := ∃ (x6 x7 : Option D) (c : Str → Nat), s = [some (A ns), some (.int a), some (schD sch), some (.int most), some (cdic (pre.map (·.1.1)) (cD c)), none, x6, x7, none, none, none, none] ∧ ∀ m, c m ≤ most
theorem counts_step0 (ns : List Int) (a most : Nat) {sch : List Knd} (nd : (sch.map (·.1)).Nodup) (hl : sch.length ≤ 3) (pre : List (Knd × Nat)) (b : Knd × Nat) (post : List (Knd × Nat)) (s : En) (hx : sch.zipIdx = pre ++ b :: post) (hi : IC0 ns a most sch pre s) :
    ∃ s2, turnD (tgd (.tp (.cons (.nm 6) (.cons (.nm 7) .nil)))).f (dS L__law_counts_0) (D.tup [.int (b.2 : Nat), kndD b.1]) s = .nx s2 ∧ IC0 ns a most sch (pre ++ [b]) s2 := by
  obtain ⟨kd, j⟩ := b
  obtain ⟨x6, x7, c, rfl, hc⟩ := hi
  obtain ⟨hj, hk, hlt⟩ := zipIdx_at hx
  obtain ⟨v, hv, v0, v1⟩ := pick_ok ns (a + j) (m := most + 1) (by omega)
  have hv' : φ__law_pick [A ns, .int ((a : Int) + (j : Int)), .int ((most : Int) + 1)] = .ok (.int v) := hv
  obtain ⟨vv, rfl⟩ : ∃ vv : Nat, v = vv := ⟨v.toNat, by omega⟩
  have hnew : kd.1 ∉ pre.map (·.1.1) := by
    have e : sch.map (·.1) = pre.map (·.1.1) ++ kd.1 :: post.map (·.1.1) := by
      have := congrArg (List.map fun p : Knd × Nat => p.1.1) hx
      have e0 : sch.zipIdx.map (fun p : Knd × Nat => p.1.1) = sch.map (·.1) := by
        have : (fun p : Knd × Nat => p.1.1) = (fun k : Knd => k.1) ∘ Prod.fst := rfl
        rw [this, ← List.map_map, List.zipIdx_map_fst]
      rw [e0] at this
      rw [this]; simp
    rw [e] at nd
    have := List.nodup_append.mp nd
    intro z
    exact this.2.2 _ z _ (List.mem_cons_self ..) rfl
  have hlen : pre.length < 16777216 := by omega
  refine ⟨[some (A ns), some (.int a), some (schD sch), some (.int most), some (cdic ((pre ++ [(kd, j)]).map (·.1.1)) (cD (fput c kd.1 vv))), none, some (.int j), some (kndD kd), none, none, none, none], ?_, ?_⟩
  · have hp := put_new (v := cD c) (d := .int (vv : Int)) hnew
    rw [cD_put] at hp
    simp only [List.map_map] at hp
    simp [turnD, L__law_counts_0, ftName, eVar, kndD, hv', dicAt, optO, keyOf, cdic, hp, sizeLine_eq, hlen]
  · refine ⟨_, _, fput c kd.1 vv, rfl, fun m => ?_⟩
    unfold fput
    split
    · omega
    · exact hc m
end Pu

end
section
open Hr Wk PySem
namespace Pu
@[simp] theorem num0 : dSub2 (.str "number") (.int 0) = .ok (.str "n") := rfl
@[simp] theorem txt0 : dSub2 (.str "text") (.int 0) = .ok (.str "t") := rfl
@[simp] theorem n_link : (("n" : Str) == ("link" : Str)) = false := by decide +kernel
@[simp] theorem t_link : (("t" : Str) == ("link" : Str)) = false := by decide +kernel
def IC3 (ns : List Int) (a most : Nat) (sch : List Knd) (names : List Str) (kd : Knd) (c : Str → Nat) (x5 x6 x7 : Option D) (pre : List Fld) (s : En) : Prop := ∃ (x10 x11 : Option D), s = [some (A ns), some (.int a), some (schD sch), some (.int most), some (cdic names (cD (pre.foldl (fun c f => st1 kd.1 c f.2) c))), x5, x6, x7, some (.str kd.1), some (.tup (kd.2.map fldD)), x10, x11]
theorem counts_step3 (ns : List Int) (a most : Nat) {sch : List Knd} {names : List Str} {kd : Knd} (hn : kd.1 ∈ names) (hl : names.length ≤ 3) (c : Str → Nat) (x5 x6 x7 : Option D) (pre : List Fld) (b : Fld) (post : List Fld) (s : En) (hg : ∀ g, b.2.goal = some g → g ∈ names) (hi : IC3 ns a most sch names kd c x5 x6 x7 pre s) :
    ∃ s2, turnD (tgd (.tp (.cons (.nm 10) (.cons (.nm 11) .nil)))).f (dS L__law_counts_3) (fldD b) s = .nx s2 ∧ IC3 ns a most sch names kd c x5 x6 x7 (pre ++ [b]) s2 := by
  obtain ⟨fnm, srt⟩ := b
  obtain ⟨x10, x11, rfl⟩ := hi
  have hf : (pre ++ [(fnm, srt)]).foldl (fun c f => st1 kd.1 c f.2) c = st1 kd.1 (pre.foldl (fun c (f : Fld) => st1 kd.1 c f.2) c) srt := by simp
  generalize pre.foldl (fun c (f : Fld) => st1 kd.1 c f.2) c = c0 at hf
  unfold IC3
  rw [hf]
  refine ⟨_, ?_, some (.str fnm), some srt.d, rfl⟩
  cases srt with
  | num => simp [turnD, L__law_counts_3, ftName, eVar, fldD, Srt.d, st1]
  | txt => simp [turnD, L__law_counts_3, ftName, eVar, fldD, Srt.d, st1]
  | lnk g m r =>
    cases m with
    | true => simp [turnD, L__law_counts_3, ftName, eVar, fldD, Srt.d, st1]
    | false =>
      have hg' : g ∈ names := hg g rfl
      have hs := sub_cdic (v := cD c0) hg'
      by_cases hz : c0 g = 0
      · have hp := put_old (v := cD c0) (d := .int ((0 : Nat) : Int)) hn
        rw [cD_put] at hp
        simp at hp
        have hlen : names.length < 16777216 := by omega
        simp [turnD, L__law_counts_3, ftName, eVar, fldD, Srt.d, st1, hs, cD, hz]
        simp [cdic, dicAt, optO, keyOf, hp, sizeLine_eq, hlen]
      · have hz' : ((c0 g : Int) == 0) = false := by simpa using hz
        simp [turnD, L__law_counts_3, ftName, eVar, fldD, Srt.d, st1, hs, hz, hz']
        simp [cD, hz']
def IC2 (ns : List Int) (a most : Nat) (sch : List Knd) (c : Str → Nat) (x5 x6 x7 : Option D) (pre : List Knd) (s : En) : Prop := ∃ (x8 x9 x10 x11 : Option D), s = [some (A ns), some (.int a), some (schD sch), some (.int most), some (cdic (sch.map (·.1)) (cD (pre.foldl stK c))), x5, x6, x7, x8, x9, x10, x11]
theorem counts_step2 (ns : List Int) (a most : Nat) {sch : List Knd} (hl : sch.length ≤ 3) (hw : ∀ kd ∈ sch, ∀ f ∈ kd.2, ∀ g, f.2.goal = some g → g ∈ sch.map (·.1)) (c : Str → Nat) (x5 x6 x7 : Option D) (pre : List Knd) (b : Knd) (post : List Knd) (s : En) (hx : sch = pre ++ b :: post) (hi : IC2 ns a most sch c x5 x6 x7 pre s) :
    ∃ s2, turnD (tgd (.tp (.cons (.nm 8) (.cons (.nm 9) .nil)))).f (dS L__law_counts_2) (kndD b) s = .nx s2 ∧ IC2 ns a most sch c x5 x6 x7 (pre ++ [b]) s2 := by
  obtain ⟨x8, x9, x10, x11, rfl⟩ := hi
  have hb : b ∈ sch := by rw [hx]; simp
  obtain ⟨s', h1, y10, y11, rfl⟩ := forD_run (I := IC3 ns a most sch (sch.map (·.1)) b (pre.foldl stK c) x5 x6 x7) (s := [some (A ns), some (.int a), some (schD sch), some (.int most), some (cdic (sch.map (·.1)) (cD (pre.foldl stK c))), x5, x6, x7, some (.str b.1), some (.tup (b.2.map fldD)), x10, x11])
    (f := fldD) (xs := b.2) ⟨x10, x11, rfl⟩ (fun p f q s e i => counts_step3 ns a most (List.mem_map.mpr ⟨b, hb, rfl⟩) (by simpa using hl) _ x5 x6 x7 p f q s (hw b hb f (by rw [e]; simp)) i)
  refine ⟨[some (A ns), some (.int a), some (schD sch), some (.int most), some (cdic (sch.map (·.1)) (cD (stK (pre.foldl stK c) b))), x5, x6, x7, some (.str b.1), some (.tup (b.2.map fldD)), y10, y11], ?_, ?_⟩
  · simp [turnD, L__law_counts_2, ftName, eVar, kndD, h1, stK]
  · exact ⟨some (.str b.1), some (.tup (b.2.map fldD)), y10, y11, by rw [List.foldl_append]; rfl⟩
def IC1 (ns : List Int) (a most : Nat) (sch : List Knd) (c : Str → Nat) (x6 x7 : Option D) (pre : List Nat) (s : En) : Prop := ∃ (x5 x8 x9 x10 x11 : Option D), s = [some (A ns), some (.int a), some (schD sch), some (.int most), some (cdic (sch.map (·.1)) (cD (rounds sch c pre.length))), x5, x6, x7, x8, x9, x10, x11]
theorem counts_step1 (ns : List Int) (a most : Nat) {sch : List Knd} (hl : sch.length ≤ 3) (hw : ∀ kd ∈ sch, ∀ f ∈ kd.2, ∀ g, f.2.goal = some g → g ∈ sch.map (·.1)) (c : Str → Nat) (x6 x7 : Option D) (pre : List Nat) (b : Nat) (s : En) (hi : IC1 ns a most sch c x6 x7 pre s) :
    ∃ s2, turnD (tgd (.nm 5)).f (dS L__law_counts_1) (.int (b : Nat)) s = .nx s2 ∧ IC1 ns a most sch c x6 x7 (pre ++ [b]) s2 := by
  obtain ⟨x5, x8, x9, x10, x11, rfl⟩ := hi
  obtain ⟨s', h1, y8, y9, y10, y11, rfl⟩ := forD_run (I := IC2 ns a most sch (rounds sch c pre.length) (some (.int b)) x6 x7) (s := [some (A ns), some (.int a), some (schD sch), some (.int most), some (cdic (sch.map (·.1)) (cD (rounds sch c pre.length))), some (.int b), x6, x7, x8, x9, x10, x11])
    (f := kndD) (xs := sch) ⟨x8, x9, x10, x11, rfl⟩ (fun p k q s e i => counts_step2 ns a most hl hw _ _ x6 x7 p k q s e i)
  refine ⟨[some (A ns), some (.int a), some (schD sch), some (.int most), some (cdic (sch.map (·.1)) (cD (rounds sch c (pre.length + 1)))), some (.int b), x6, x7, y8, y9, y10, y11], ?_, ?_⟩
  · simp only [schD] at h1
    simp [turnD, L__law_counts_1, ftName, eVar, h1, schD, rounds, stR]
  · exact ⟨some (.int b), y8, y9, y10, y11, by rw [List.length_append]; rfl⟩
theorem counts_ok (ns : List Int) (a most : Nat) {sch : List Knd} (nd : (sch.map (·.1)).Nodup) (hl : sch.length ≤ 3) (hw : ∀ kd ∈ sch, ∀ f ∈ kd.2, ∀ g, f.2.goal = some g → g ∈ sch.map (·.1)) :
    ∃ c : Str → Nat, φ__law_counts [A ns, .int a, schD sch, .int most] = .ok (cdic (sch.map (·.1)) (cD c)) ∧ (∀ m, c m ≤ most) ∧ Closed sch c := by
  obtain ⟨s', h1, x6, x7, c, rfl, hc⟩ := forD_run (I := IC0 ns a most sch) (s := [some (A ns), some (.int a), some (schD sch), some (.int most), some (.dic false [] []), none, none, none, none, none, none, none])
    (f := fun p : Knd × Nat => D.tup [.int (p.2 : Nat), kndD p.1]) (xs := sch.zipIdx) ⟨none, none, fun _ => 0, rfl, fun _ => Nat.zero_le _⟩ (fun p b q s e i => counts_step0 ns a most nd hl p b q s e i)
  have e0 : sch.zipIdx.map (fun p : Knd × Nat => p.1.1) = sch.map (·.1) := by
    have : (fun p : Knd × Nat => p.1.1) = (fun k : Knd => k.1) ∘ Prod.fst := rfl
    rw [this, ← List.map_map, List.zipIdx_map_fst]
  rw [e0] at h1
  obtain ⟨s2, h2, x5, x8, x9, x10, x11, rfl⟩ := forD_run (I := IC1 ns a most sch c x6 x7) (s := [some (A ns), some (.int a), some (schD sch), some (.int most), some (cdic (sch.map (·.1)) (cD c)), none, x6, x7, none, none, none, none])
    (f := fun i : Nat => D.int (i : Int)) (xs := List.range sch.length) ⟨none, none, none, none, none, rfl⟩ (fun p b q s e i => counts_step1 ns a most hl hw c x6 x7 p b s i)
  rw [List.length_range] at h2
  refine ⟨rounds sch c sch.length, ?_, fun m => Nat.le_trans (rounds_le sch c m _) (hc m), rounds_closed sch c⟩
  have hr := rngA_nat (n := sch.length) (by omega)
  unfold φ__law_counts runS ir__law_counts
  simp [eVar, ftName, schD, enumL_map, hr]
  simp [schD, A] at h1 h2
  rw [h1]
  simp [eVar, ftName, schD, hr, h2]
end Pu

end
section
open Hr Wk PySem
namespace Pu
theorem pow6 : dPow (.int 10) (.int 6) = .ok (.int 1000000) := rfl
def signs : Str := " !'#&,:;0123456789ABCXYZabcxyz~"
def sgn (k : Nat) : Nat := signs.cps.getD k 0
theorem sgn_at {k : Nat} (h : k < 31) : dSub2 (.str " !'#&,:;0123456789ABCXYZabcxyz~") (.int (k : Int)) = .ok (.str ⟨#[sgn k]⟩) := by
  have e : signs.cps.toList.length = 31 := by decide +kernel
  have hk : signs.cps.toList[k]? = some (sgn k) := by
    unfold sgn
    rw [Array.getD_eq_getD_getElem?, ← Array.getElem?_toList, List.getElem?_eq_getElem (by omega)]
    rfl
  show R.of ((L2.atI signs.cps.toList (k : Int)).map fun c => D.str ⟨#[c]⟩) = _
  rw [atI_nat hk]
  rfl
theorem sgn_ok {k : Nat} (h : k < 31) : 32 ≤ sgn k ∧ sgn k ≤ 126 := by
  have : ∀ k, k < 31 → 32 ≤ sgn k ∧ sgn k ≤ 126 := by decide +kernel
  exact this k h
/-- a plain text -/
def txtOk (x : Str) : Prop := x.length ≤ 8 ∧ ∀ c ∈ x.cps.toList, 32 ≤ c ∧ c ≤ 126
theorem strsD_map (ys : List Str) : strsD (ys.map D.str) = some ys := by
  induction ys with
  | nil => rfl
  | cons y ys ih => show (strsD (ys.map D.str)).map _ = _; rw [ih]; rfl
theorem join1_cps : ∀ (cs : List Nat), (Str.join "" (cs.map fun c => (⟨#[c]⟩ : Str))).cps.toList = cs
  | [] => by decide +kernel
  | [c] => rfl
  | c :: d :: cs => by
    have := join1_cps (d :: cs)
    show ((⟨#[c]⟩ : Str) ++ ("" : Str) ++ Str.join "" ((d :: cs).map fun c => (⟨#[c]⟩ : Str))).cps.toList = _
    have e : ∀ x y : Str, (x ++ y).cps.toList = x.cps.toList ++ y.cps.toList := fun x y => Array.toList_append
    rw [e, e, this]
    rfl
theorem sum1 : ∀ cs : List Nat, ((cs.map fun c => (⟨#[c]⟩ : Str)).map (·.length)).sum = cs.length
  | [] => rfl
  | c :: cs => by
    show (1 : Nat) + ((cs.map fun c => (⟨#[c]⟩ : Str)).map (·.length)).sum = cs.length + 1
    rw [sum1 cs]; omega
def IsPlain : Srt → D → Prop
  | .num, d => ∃ v : Int, d = .int v ∧ -9999 ≤ v ∧ v ≤ 9999
  | .txt, d => ∃ x : Str, d = .str x ∧ txtOk x
  | _, _ => False
theorem plain_num (ns : List Int) (a : Nat) : ∃ d, φ__law_plain [A ns, .int a, Srt.num.d] = .ok d ∧ IsPlain .num d := by
  obtain ⟨w, hw, w0, w1⟩ := pick_ok ns a (m := 1000000) (by decide)
  have key : ∃ v : Int, dSub2 (.lst [.int 0, .int 1, .int (-1), .int 9999, .int (-9999), .int (w % 19999 - 9999), .int (w % 20 - 9)]) (.int (w / 20000 % 7)) = .ok (.int v) ∧ -9999 ≤ v ∧ v ≤ 9999 := by
    have : w / 20000 % 7 = 0 ∨ w / 20000 % 7 = 1 ∨ w / 20000 % 7 = 2 ∨ w / 20000 % 7 = 3 ∨ w / 20000 % 7 = 4 ∨ w / 20000 % 7 = 5 ∨ w / 20000 % 7 = 6 := by omega
    rcases this with e | e | e | e | e | e | e <;> rw [e]
    · exact ⟨0, by simp, by omega, by omega⟩
    · exact ⟨1, by simp, by omega, by omega⟩
    · exact ⟨-1, by simp, by omega, by omega⟩
    · exact ⟨9999, by simp, by omega, by omega⟩
    · exact ⟨-9999, by simp, by omega, by omega⟩
    · exact ⟨w % 19999 - 9999, by simp, by omega, by omega⟩
    · exact ⟨w % 20 - 9, by simp, by omega, by omega⟩
  obtain ⟨v, hv, v0, v1⟩ := key
  refine ⟨.int v, ?_, v, rfl, v0, v1⟩
  unfold φ__law_plain runS ir__law_plain
  simp [eVar, ftName, hw, pow6, Srt.d, mod_i (show (0:Int) < 19999 by decide), mod_i (show (0:Int) < 20 by decide), mod_i (show (0:Int) < 7 by decide), div_i (show (0:Int) < 20000 by decide) (by decide), sizeLine_eq, hv]
theorem plain_txt (ns : List Int) (a : Nat) : ∃ d, φ__law_plain [A ns, .int a, Srt.txt.d] = .ok d ∧ IsPlain .txt d := by
  obtain ⟨w, hw, w0, w1⟩ := pick_ok ns a (m := 1000000) (by decide)
  have key : ∃ n : Nat, dSub2 (.lst [.int 0, .int 1, .int 2, .int 3, .int 8]) (.int (w % 5)) = .ok (.int (n : Int)) ∧ n ≤ 8 := by
    have : w % 5 = 0 ∨ w % 5 = 1 ∨ w % 5 = 2 ∨ w % 5 = 3 ∨ w % 5 = 4 := by omega
    rcases this with e | e | e | e | e <;> rw [e]
    · exact ⟨0, by simp, by omega⟩
    · exact ⟨1, by simp, by omega⟩
    · exact ⟨2, by simp, by omega⟩
    · exact ⟨3, by simp, by omega⟩
    · exact ⟨8, by simp, by omega⟩
  obtain ⟨n, hn, n8⟩ := key
  have nt : (("text" : Str) == ("number" : Str)) = false := by decide +kernel
  have turn : ∀ k ∈ List.range n, ∃ c : Nat, lcT (tgd (.nm 5)).f (den .no).t (den E__law_plain_0).v [some (A ns), some (.int a), some (.str "text"), some (.int w), some (.str " !'#&,:;0123456789ABCXYZabcxyz~"), none] (.int (k : Nat)) = .ok (some (D.str ⟨#[c]⟩)) ∧ (32 ≤ c ∧ c ≤ 126) := by
    intro k hk
    obtain ⟨p, hp, p0, p1⟩ := pick_ok ns (a + k) (m := 31) (by decide)
    have hp' : φ__law_pick [A ns, .int ((a : Int) + (k : Int)), .int 31] = .ok (.int p) := hp
    obtain ⟨pp, rfl⟩ : ∃ pp : Nat, p = pp := ⟨p.toNat, by omega⟩
    refine ⟨sgn pp, ?_, sgn_ok (by omega)⟩
    simp [lcT, ftName, E__law_plain_0, eVar, hp', sgn_at (show pp < 31 by omega)]
  obtain ⟨cs, g1, g2, g3⟩ := lcA_ex (f := fun k : Nat => D.int (k : Int)) (e := fun c : Nat => D.str ⟨#[c]⟩) turn
  rw [List.length_range] at g2
  have hr := rngA_nat (n := n) (by omega)
  have e1 : cs.map (fun c : Nat => D.str ⟨#[c]⟩) = (cs.map fun c => (⟨#[c]⟩ : Str)).map D.str := by rw [List.map_map]; rfl
  have hj : dJoin (.str "") (.lst (cs.map fun c : Nat => D.str ⟨#[c]⟩)) = .ok (.str (Str.join "" (cs.map fun c => (⟨#[c]⟩ : Str)))) := by
    rw [e1]
    show R.of ((strsD _).bind _) = _
    rw [strsD_map]
    have hs := sum1 cs
    have hz : ("" : Str).length = 0 := rfl
    show R.of (if _ then _ else _) = _
    rw [if_pos (by rw [hs, hz]; omega)]
    rfl
  have hc := join1_cps cs
  refine ⟨.str (Str.join "" (cs.map fun c => (⟨#[c]⟩ : Str))), ?_, _, rfl, ?_, fun c m => ?_⟩
  · unfold φ__law_plain runS ir__law_plain
    simp [eVar, ftName, hw, pow6, Srt.d, nt, mod_i (show (0:Int) < 5 by decide), sizeLine_eq, hn, hr, wipeE, g1, isStr, hj]
  · show (Str.join _ _).cps.size ≤ 8
    rw [← Array.length_toList, hc]
    omega
  · rw [hc] at m
    obtain ⟨i, hi, e⟩ := List.getElem_of_mem m
    exact g3 i i c (by rw [List.getElem?_range (by omega)]) (by rw [List.getElem?_eq_getElem hi, e])
/-! ### values -/
theorem lst_nil (xs : List Int) : dEq (.lst (xs.map D.int)) (.lst []) = .ok xs.isEmpty := by
  unfold dEq
  have h1 : (D.lst (xs.map D.int)).pl = true := pls_ints xs
  have h2 : (D.lst []).pl = true := rfl
  have h3 : (D.lst []).dep ≤ 60 := by decide
  rw [h1, h2, if_pos (by simp; omega)]
  cases xs with
  | nil => rfl
  | cons n ns => rfl
def kD (ks : Str → List Int) : Str → D := fun n => .lst ((ks n).map D.int)
def ValOk (ks : Str → List Int) : Srt → D → Prop
  | .lnk g m _, d => (d = .non ∧ m = true) ∨ ∃ k ∈ ks g, d = .int k
  | s, d => IsPlain s d
theorem value_ok (ns : List Int) (a : Nat) {names : List Str} (ks : Str → List Int) (srt : Srt) (hg : ∀ g, srt.goal = some g → g ∈ names) (hz : ∀ g r, srt = .lnk g false r → ks g ≠ []) :
    ∃ d, φ__law_value [A ns, .int a, srt.d, cdic names (kD ks)] = .ok d ∧ ValOk ks srt d := by
  cases srt with
  | num =>
    obtain ⟨d, h1, h2⟩ := plain_num ns a
    refine ⟨d, ?_, h2⟩
    simp only [Srt.d] at h1
    unfold φ__law_value runS ir__law_value
    simp [eVar, ftName, Srt.d, h1]
  | txt =>
    obtain ⟨d, h1, h2⟩ := plain_txt ns a
    refine ⟨d, ?_, h2⟩
    simp only [Srt.d] at h1
    unfold φ__law_value runS ir__law_value
    simp [eVar, ftName, Srt.d, h1]
  | lnk g m r =>
    have hs := sub_cdic (v := kD ks) (hg g rfl)
    have hn := lst_nil (ks g)
    obtain ⟨p, hp, p0, p1⟩ := pick_ok ns a (m := 3) (by decide)
    have draw : ks g ≠ [] → ∃ (q : Int) (k : Int), φ__law_pick [A ns, .int ((a : Int) + 1), .int ((ks g).length : Int)] = .ok (.int q) ∧ dSub2 (kD ks g) (.int q) = .ok (.int k) ∧ k ∈ ks g := by
      intro hne
      have hl : 0 < (ks g).length := List.length_pos_iff.mpr hne
      obtain ⟨q, hq, q0, q1⟩ := pick_ok ns (a + 1) (m := ((ks g).length : Int)) (by omega)
      obtain ⟨x, hx1, hx2⟩ := sub_ls (xs := (ks g).map D.int) (i := q) (n := (ks g).length) (by simp) q0 q1
      rw [List.getElem?_map] at hx2
      cases z : (ks g)[q.toNat]? with
      | none => rw [z] at hx2; cases hx2
      | some k =>
        rw [z] at hx2
        cases hx2
        exact ⟨q, k, hq, hx1, List.mem_of_getElem? z⟩
    by_cases he : ks g = []
    · have hm : m = true := by
        cases m with
        | true => rfl
        | false => exact absurd he (hz g r rfl)
      subst hm
      refine ⟨.non, ?_, .inl ⟨rfl, rfl⟩⟩
      unfold φ__law_value runS ir__law_value
      have hs' : dSub2 (cdic names (kD ks)) (.str g) = .ok (.lst []) := by rw [hs]; unfold kD; rw [he]; rfl
      have hn' : dEq (.lst []) (.lst []) = .ok true := by rw [he] at hn; exact hn
      simp [eVar, ftName, Srt.d, hs', hn', sizeLine_eq]
    · obtain ⟨q, k, hq, hk, hm⟩ := draw he
      have hi : (ks g).isEmpty = false := by cases z : ks g with | nil => exact absurd z he | cons _ _ => rfl
      rw [hi] at hn
      have hs' : dSub2 (cdic names (kD ks)) (.str g) = .ok (.lst ((ks g).map D.int)) := hs
      have hk' : dSub2 (.lst ((ks g).map D.int)) (.int q) = .ok (.int k) := hk
      cases m with
      | false =>
        refine ⟨.int k, ?_, .inr ⟨k, hm, rfl⟩⟩
        unfold φ__law_value runS ir__law_value
        simp [eVar, ftName, Srt.d, hs', sizeLine_eq, hq, hk']
      | true =>
        by_cases hp0 : p = 0
        · refine ⟨.non, ?_, .inl ⟨rfl, rfl⟩⟩
          subst hp0
          unfold φ__law_value runS ir__law_value
          simp [eVar, ftName, Srt.d, hs', hn, hp, sizeLine_eq]
        · refine ⟨.int k, ?_, .inr ⟨k, hm, rfl⟩⟩
          have hpb : (p == 0) = false := by simpa using hp0
          unfold φ__law_value runS ir__law_value
          simp [eVar, ftName, Srt.d, hs', hn, hp, hpb, sizeLine_eq, hq, hk']
end Pu

end
section
open Hr Wk PySem
namespace Pu
theorem intsD_map : ∀ xs : List Int, intsD (xs.map D.int) = some xs
  | [] => rfl
  | x :: xs => by show (intsD (xs.map D.int)).map _ = _; rw [intsD_map xs]; rfl
theorem max_0 (xs : List Int) : biF .max [.lst (.int 0 :: xs.map D.int)] = .ok (.int (maxI xs 0)) := by
  show R.of ((intsD ((0 :: xs).map D.int)).bind _) = _
  rw [intsD_map]
  rfl
theorem add_0 {xs : List Int} (h : xs.length ≤ 1000) : dAdd (.lst [.int 0]) (.lst (xs.map D.int)) = .ok (.lst (.int 0 :: xs.map D.int)) := by
  show (if _ then _ else _) = _
  rw [if_pos (by simp [sizeLine_eq]; omega)]
  rfl
structure KeysOk (xs : List Int) : Prop where
  pw : xs.Pairwise (· < ·)
  bd : ∀ x ∈ xs, 1 ≤ x ∧ x ≤ 2 * xs.length
theorem KeysOk.nil : KeysOk [] := ⟨List.Pairwise.nil, fun x m => by cases m⟩
theorem max_bd {xs : List Int} (h : KeysOk xs) : 0 ≤ maxI xs 0 ∧ maxI xs 0 ≤ 2 * xs.length ∧ ∀ x ∈ xs, x ≤ maxI xs 0 := by
  obtain ⟨h1, h2⟩ := maxI_ok xs 0
  refine ⟨h2 0 (List.mem_cons_self ..), ?_, fun x m => h2 x (List.mem_cons_of_mem _ m)⟩
  rcases List.mem_cons.mp h1 with e | e
  · rw [e]; omega
  · exact (h.bd _ e).2
theorem KeysOk.snoc {xs : List Int} (h : KeysOk xs) {p : Int} (p0 : 0 ≤ p) (p1 : p < 2) : KeysOk (xs ++ [maxI xs 0 + 1 + p]) := by
  obtain ⟨m0, m1, m2⟩ := max_bd h
  refine ⟨List.pairwise_append.mpr ⟨h.pw, List.pairwise_singleton .., fun x hx y hy => ?_⟩, fun x hx => ?_⟩
  · rw [List.mem_singleton.mp hy]
    have := m2 x hx
    omega
  · rw [List.length_append, List.length_singleton]
    rcases List.mem_append.mp hx with q | q
    · have := h.bd x q
      omega
    · rw [List.mem_singleton.mp q]
      omega
/-! keys -/
def S19 (ns : List Int) (a most : Nat) (sch : List Knd) (x4 x5 x6 x7 x8 x9 x10 x11 x12 x13 x14 x15 x16 x17 x18 : Option D) : En :=
  [some (A ns), some (.int a), some (schD sch), some (.int most), x4, x5, x6, x7, x8, x9, x10, x11, x12, x13, x14, x15, x16, x17, x18]
def IK1 (ns : List Int) (a most : Nat) (sch : List Knd) (x4 x5 : Option D) (j : Nat) (x8 : Option D) (pre : List Nat) (s : En) : Prop := ∃ (x10 : Option D) (xs : List Int), s = S19 ns a most sch x4 x5 none (some (.int j)) x8 (some (.lst (xs.map D.int))) x10 none none none none none none none none ∧ KeysOk xs ∧ xs.length = pre.length
theorem store_step1 (ns : List Int) (a most : Nat) (sch : List Knd) (x4 x5 : Option D) (j : Nat) (x8 : Option D) (pre : List Nat) (b : Nat) (s : En) (hp : pre.length ≤ 900) (hi : IK1 ns a most sch x4 x5 j x8 pre s) :
    ∃ s2, turnD (tgd (.nm 10)).f (dS L__law_store_1) (.int (b : Nat)) s = .nx s2 ∧ IK1 ns a most sch x4 x5 j x8 (pre ++ [b]) s2 := by
  obtain ⟨x10, xs, rfl, hk, hl⟩ := hi
  obtain ⟨p, hp', p0, p1⟩ := pick_ok ns (a + 5 + 7 * j + b) (m := 2) (by decide)
  have hp2 : φ__law_pick [A ns, .int ((a : Int) + 5 + 7 * (j : Int) + (b : Int)), .int 2] = .ok (.int p) := by
    have e : ((a + 5 + 7 * j + b : Nat) : Int) = (a : Int) + 5 + 7 * (j : Int) + (b : Int) := by omega
    rw [← e]; exact hp'
  have ha := add_0 (xs := xs) (by omega)
  have hm := max_0 xs
  have hlen : xs.length < 16777216 := by omega
  refine ⟨S19 ns a most sch x4 x5 none (some (.int j)) x8 (some (.lst ((xs ++ [maxI xs 0 + 1 + p]).map D.int))) (some (.int b)) none none none none none none none none, ?_, some (.int b), _, rfl, hk.snoc p0 p1, by simp [hl]⟩
  simp [turnD, S19, L__law_store_1, ftName, eVar, ha, hm, hp2, mul_l (show nrw 7 = true by decide), lstAt, optO, sizeLine_eq, hlen]
theorem kD_put (ks : Str → List Int) (g : Str) (xs : List Int) : fput (kD ks) g (.lst (xs.map D.int)) = kD (fput ks g xs) := by
  funext m
  show (if m = g then D.lst (xs.map D.int) else .lst ((ks m).map D.int)) = D.lst ((if m = g then xs else ks m).map D.int)
  split <;> rfl
theorem pre_new {sch : List Knd} (nd : (sch.map (·.1)).Nodup) {pre post : List (Knd × Nat)} {kd : Knd} {j : Nat} (hx : sch.zipIdx = pre ++ (kd, j) :: post) : kd.1 ∉ pre.map (·.1.1) := by
  have e : sch.map (·.1) = pre.map (·.1.1) ++ kd.1 :: post.map (·.1.1) := by
    have := congrArg (List.map fun p : Knd × Nat => p.1.1) hx
    have e0 : sch.zipIdx.map (fun p : Knd × Nat => p.1.1) = sch.map (·.1) := by
      have : (fun p : Knd × Nat => p.1.1) = (fun k : Knd => k.1) ∘ Prod.fst := rfl
      rw [this, ← List.map_map, List.zipIdx_map_fst]
    rw [e0] at this
    rw [this]; simp
  rw [e] at nd
  have := List.nodup_append.mp nd
  intro z
  exact this.2.2 _ z _ (List.mem_cons_self ..) rfl
def IK0 (ns : List Int) (a most : Nat) (sch : List Knd) (c : Str → Nat) (pre : List (Knd × Nat)) (s : En) : Prop := ∃ (x7 x8 x9 x10 : Option D) (ks : Str → List Int), s = S19 ns a most sch (some (cdic (sch.map (·.1)) (cD c))) (some (cdic (pre.map (·.1.1)) (kD ks))) none x7 x8 x9 x10 none none none none none none none none ∧ ∀ n ∈ pre.map (·.1.1), KeysOk (ks n) ∧ (ks n).length = c n
theorem store_step0 (ns : List Int) (a most : Nat) {sch : List Knd} (nd : (sch.map (·.1)).Nodup) (hl : sch.length ≤ 3) {c : Str → Nat} (hc : ∀ m, c m ≤ 900) (pre : List (Knd × Nat)) (b : Knd × Nat) (post : List (Knd × Nat)) (s : En) (hx : sch.zipIdx = pre ++ b :: post) (hi : IK0 ns a most sch c pre s) :
    ∃ s2, turnD (tgd (.tp (.cons (.nm 7) (.cons (.nm 8) .nil)))).f (dS L__law_store_0) (D.tup [.int (b.2 : Nat), kndD b.1]) s = .nx s2 ∧ IK0 ns a most sch c (pre ++ [b]) s2 := by
  obtain ⟨kd, j⟩ := b
  obtain ⟨x7, x8, x9, x10, ks, rfl, hk⟩ := hi
  obtain ⟨hj, hkd, hlt⟩ := zipIdx_at hx
  have hnew := pre_new nd hx
  have hmem : kd.1 ∈ sch.map (·.1) := List.mem_map.mpr ⟨kd, List.mem_of_getElem? hkd, rfl⟩
  have hs := sub_cdic (v := cD c) hmem
  obtain ⟨s', h1, y10, xs, rfl, hxs, hxl⟩ := forD_run (I := IK1 ns a most sch (some (cdic (sch.map (·.1)) (cD c))) (some (cdic (pre.map (·.1.1)) (kD ks))) j (some (kndD kd)))
    (s := S19 ns a most sch (some (cdic (sch.map (·.1)) (cD c))) (some (cdic (pre.map (·.1.1)) (kD ks))) none (some (.int j)) (some (kndD kd)) (some (.lst [])) x10 none none none none none none none none)
    (f := fun i : Nat => D.int (i : Int)) (xs := List.range (c kd.1)) ⟨x10, [], rfl, .nil, rfl⟩ (fun p b q s e i => store_step1 ns a most sch _ _ j _ p b s (by
      have := congrArg List.length e
      rw [List.length_range, List.length_append] at this
      have := hc kd.1
      omega) i)
  rw [List.length_range] at hxl
  have hr := rngA_nat (n := c kd.1) (by have := hc kd.1; omega)
  have hlen : pre.length < 16777216 := by omega
  have hp := put_new (v := kD ks) (d := .lst (xs.map D.int)) hnew
  rw [kD_put] at hp
  simp only [List.map_map] at hp
  refine ⟨S19 ns a most sch (some (cdic (sch.map (·.1)) (cD c))) (some (cdic ((pre ++ [(kd, j)]).map (·.1.1)) (kD (fput ks kd.1 xs)))) none (some (.int j)) (some (kndD kd)) (some (.lst (xs.map D.int))) y10 none none none none none none none none, ?_, _, _, _, _, fput ks kd.1 xs, rfl, fun n hn => ?_⟩
  · have hr' : rngA [cD c kd.1] = .ok ((List.range (c kd.1)).map fun i : Nat => .int (i : Int)) := hr
    simp only [S19, kndD] at h1
    simp only [List.map_append, List.map_cons, List.map_nil] at hp
    simp [turnD, S19, L__law_store_0, ftName, eVar, kndD, hs, hr', sizeLine_eq, h1]
    simp [cdic, dicAt, optO, keyOf, hp, hlen]
  · unfold fput
    by_cases e : n = kd.1
    · rw [if_pos e, e]; exact ⟨hxs, hxl⟩
    · rw [if_neg e]
      refine hk n ?_
      simp at hn
      rcases hn with q | q
      · simpa using q
      · exact absurd q e
end Pu

end
section
open Hr Wk PySem
namespace Pu
structure Rw where
  key : Int
  ver : Int
  vals : List D
def rwD (r : Rw) : D := .tup [.int r.key, .int r.ver, .tup r.vals]
structure Shf where
  num : Int
  rows : List Rw
def shD (s : Shf) : D := .tup [.int s.num, .tup (s.rows.map rwD)]
def stoD (l : List Shf) : D := .tup (l.map shD)
structure RwOk (ks : Str → List Int) (fs : List Fld) (r : Rw) : Prop where
  ver : 1 ≤ r.ver ∧ r.ver ≤ 3
  len : r.vals.length = fs.length
  val : ∀ (i : Nat) (f : Fld) (d : D), fs[i]? = some f → r.vals[i]? = some d → ValOk ks f.2 d
def IR3 (ns : List Int) (a most : Nat) (sch : List Knd) (ks : Str → List Int) (kd : Knd) (x4 x6 : Option D) (j : Nat) (x8 x9 : Option D) (pre : List (Int × Nat)) (s : En) : Prop := ∃ (x10 x14 x15 x16 x17 x18 : Option D) (rows : List Rw),
  s = S19 ns a most sch x4 (some (cdic (sch.map (·.1)) (kD ks))) x6 (some (.int j)) x8 x9 x10 (some (.lst (rows.map rwD))) (some (.str kd.1)) (some (.tup (kd.2.map fldD))) x14 x15 x16 x17 x18 ∧ rows.map (·.key) = pre.map (·.1) ∧ ∀ r ∈ rows, RwOk ks kd.2 r
theorem store_step3 (ns : List Int) (a most : Nat) {sch : List Knd} (ks : Str → List Int) (kd : Knd) (x4 x6 : Option D) (j : Nat) (x8 x9 : Option D) (hg : ∀ f ∈ kd.2, ∀ g, f.2.goal = some g → g ∈ sch.map (·.1)) (hz : ∀ f ∈ kd.2, ∀ g r, f.2 = .lnk g false r → ks g ≠ []) (hf : kd.2.length ≤ 4)
    (pre : List (Int × Nat)) (b : Int × Nat) (s : En) (hp : pre.length ≤ 900) (hi : IR3 ns a most sch ks kd x4 x6 j x8 x9 pre s) :
    ∃ s2, turnD (tgd (.tp (.cons (.nm 10) (.cons (.nm 14) .nil)))).f (dS L__law_store_3) (D.tup [.int (b.2 : Nat), .int b.1]) s = .nx s2 ∧ IR3 ns a most sch ks kd x4 x6 j x8 x9 (pre ++ [b]) s2 := by
  obtain ⟨key, k⟩ := b
  obtain ⟨x10, x14, x15, x16, x17, x18, rows, rfl, hr, ho⟩ := hi
  have hrl : rows.length = pre.length := by have := congrArg List.length hr; simpa using this
  obtain ⟨v, hv, v0, v1⟩ := pick_ok ns (a + 30 + 150 * j + 30 * k + 28) (m := 3) (by decide)
  have eb : ((a + 30 + 150 * j + 30 * k : Nat) : Int) = (a : Int) + 30 + 150 * (j : Int) + 30 * (k : Int) := by omega
  have hv' : φ__law_pick [A ns, .int ((a : Int) + 30 + 150 * (j : Int) + 30 * (k : Int) + 28), .int 3] = .ok (.int v) := by
    rw [← eb]; exact hv
  have turn : ∀ p ∈ kd.2.zipIdx, ∃ d : D, lcT (tgd (.tp (.cons (.nm 17) (.cons (.nm 18) .nil)))).f (den .no).t (den E__law_store_0).v (S19 ns a most sch x4 (some (cdic (sch.map (·.1)) (kD ks))) x6 (some (.int j)) x8 x9 (some (.int k)) (some (.lst (rows.map rwD))) (some (.str kd.1)) (some (.tup (kd.2.map fldD))) (some (.int key)) (some (.int ((a : Int) + 30 + 150 * (j : Int) + 30 * (k : Int)))) x16 none none) (.tup [.int (p.2 : Nat), fldD p.1]) = .ok (some d) ∧ ValOk ks p.1.2 d := by
    rintro ⟨f, i⟩ hp
    have hfm : f ∈ kd.2 := by
      have := List.mem_map_of_mem (f := Prod.fst) hp
      rwa [List.zipIdx_map_fst] at this
    obtain ⟨d, h1, h2⟩ := value_ok ns (a + 30 + 150 * j + 30 * k + 7 * i) (names := sch.map (·.1)) ks f.2 (hg f hfm) (hz f hfm)
    have h1' : φ__law_value [A ns, .int ((a : Int) + 30 + 150 * (j : Int) + 30 * (k : Int) + 7 * (i : Int)), f.2.d, cdic (sch.map (·.1)) (kD ks)] = .ok d := by
      have e : ((a + 30 + 150 * j + 30 * k + 7 * i : Nat) : Int) = (a : Int) + 30 + 150 * (j : Int) + 30 * (k : Int) + 7 * (i : Int) := by omega
      rw [← e]; exact h1
    refine ⟨d, ?_, h2⟩
    simp [lcT, S19, ftName, E__law_store_0, eVar, fldD, mul_l (show nrw 7 = true by decide), h1']
  obtain ⟨vals, g1, g2, g3⟩ := lcA_ex (f := fun p : Fld × Nat => D.tup [.int (p.2 : Nat), fldD p.1]) (e := fun d : D => d) turn
  rw [List.map_id'] at g1
  rw [List.length_zipIdx] at g2
  have hlen : rows.length < 16777216 := by omega
  refine ⟨S19 ns a most sch x4 (some (cdic (sch.map (·.1)) (kD ks))) x6 (some (.int j)) x8 x9 (some (.int k)) (some (.lst ((rows ++ [Rw.mk key (1 + v) vals]).map rwD))) (some (.str kd.1)) (some (.tup (kd.2.map fldD))) (some (.int key)) (some (.int ((a : Int) + 30 + 150 * (j : Int) + 30 * (k : Int)))) (some (.lst vals)) x17 x18, ?_, _, _, _, _, _, _, rows ++ [Rw.mk key (1 + v) vals], rfl, by simp [hr], fun r hm => ?_⟩
  · simp only [S19] at g1
    simp [turnD, S19, L__law_store_3, ftName, eVar, wipeE, mul_l (show nrw 150 = true by decide), mul_l (show nrw 30 = true by decide), enumL_map, g1, hv', lstAt, optO, sizeLine_eq, hlen, rwD]
  · rcases List.mem_append.mp hm with q | q
    · exact ho r q
    · rw [List.mem_singleton.mp q]
      refine ⟨⟨by show 1 ≤ 1 + v; omega, by show 1 + v ≤ 3; omega⟩, g2, fun i f d e1 e2 => ?_⟩
      exact g3 i (f, i) d (by rw [List.getElem?_zipIdx, e1]; simp) e2
/-- a shelf of a kind -/
structure ShOk (ks : Str → List Int) (kd : Knd) (sh : Shf) : Prop where
  keys : sh.rows.map (·.key) = ks kd.1
  lt : ∀ k ∈ ks kd.1, k < sh.num
  num : 1 ≤ sh.num ∧ sh.num ≤ 2 * (ks kd.1).length + 2
  rows : ∀ r ∈ sh.rows, RwOk ks kd.2 r
def IR2 (ns : List Int) (a most : Nat) (sch : List Knd) (ks : Str → List Int) (x4 : Option D) (pre : List (Knd × Nat)) (s : En) : Prop := ∃ (x7 x8 x9 x10 x11 x12 x13 x14 x15 x16 x17 x18 : Option D) (shs : List Shf),
  s = S19 ns a most sch x4 (some (cdic (sch.map (·.1)) (kD ks))) (some (.lst (shs.map shD))) x7 x8 x9 x10 x11 x12 x13 x14 x15 x16 x17 x18 ∧ shs.length = pre.length ∧ ∀ (i : Nat) (kd : Knd) (sh : Shf), sch[i]? = some kd → shs[i]? = some sh → ShOk ks kd sh
theorem store_step2 (ns : List Int) (a most : Nat) {sch : List Knd} (hl : sch.length ≤ 3) (ks : Str → List Int) (x4 : Option D) (hk : ∀ kd ∈ sch, KeysOk (ks kd.1) ∧ (ks kd.1).length ≤ 900) (hg : ∀ kd ∈ sch, ∀ f ∈ kd.2, ∀ g, f.2.goal = some g → g ∈ sch.map (·.1)) (hz : ∀ kd ∈ sch, ks kd.1 ≠ [] → ∀ f ∈ kd.2, ∀ g r, f.2 = .lnk g false r → ks g ≠ []) (hf : ∀ kd ∈ sch, kd.2.length ≤ 4)
    (pre : List (Knd × Nat)) (b : Knd × Nat) (post : List (Knd × Nat)) (s : En) (hx : sch.zipIdx = pre ++ b :: post) (hi : IR2 ns a most sch ks x4 pre s) :
    ∃ s2, turnD (tgd (.tp (.cons (.nm 7) (.cons (.tp (.cons (.nm 12) (.cons (.nm 13) .nil))) .nil)))).f (dS L__law_store_2) (D.tup [.int (b.2 : Nat), kndD b.1]) s = .nx s2 ∧ IR2 ns a most sch ks x4 (pre ++ [b]) s2 := by
  obtain ⟨kd, j⟩ := b
  obtain ⟨x7, x8, x9, x10, x11, x12, x13, x14, x15, x16, x17, x18, shs, rfl, hsl, hso⟩ := hi
  obtain ⟨hj, hkd, hlt⟩ := zipIdx_at hx
  have hm : kd ∈ sch := List.mem_of_getElem? hkd
  obtain ⟨hk1, hk2⟩ := hk kd hm
  have hs := sub_cdic (v := kD ks) (List.mem_map.mpr ⟨kd, hm, rfl⟩ : kd.1 ∈ sch.map (·.1))
  have hs' : dSub2 (cdic (sch.map (·.1)) (kD ks)) (.str kd.1) = .ok (.lst ((ks kd.1).map D.int)) := hs
  obtain ⟨p, hp, p0, p1⟩ := pick_ok ns (a + 4) (m := 2) (by decide)
  have hp' : φ__law_pick [A ns, .int ((a : Int) + 4), .int 2] = .ok (.int p) := hp
  obtain ⟨s', h1, y10, y14, y15, y16, y17, y18, rows, rfl, hr, ho⟩ := forD_run (I := IR3 ns a most sch ks kd x4 (some (.lst (shs.map shD))) j x8 x9)
    (s := S19 ns a most sch x4 (some (cdic (sch.map (·.1)) (kD ks))) (some (.lst (shs.map shD))) (some (.int j)) x8 x9 x10 (some (.lst [])) (some (.str kd.1)) (some (.tup (kd.2.map fldD))) x14 x15 x16 x17 x18)
    (f := fun p : Int × Nat => D.tup [.int (p.2 : Nat), .int p.1]) (xs := (ks kd.1).zipIdx) ⟨x10, x14, x15, x16, x17, x18, [], rfl, rfl, fun r m => by cases m⟩ (fun pr b po s e i => store_step3 ns a most ks kd x4 _ j x8 x9 (hg kd hm) (hz kd hm (fun z => by
      rw [z] at e
      have := congrArg List.length e
      simp at this)) (hf kd hm) pr b s (by
      have := congrArg List.length e
      rw [List.length_zipIdx, List.length_append] at this
      omega) i)
  rw [List.zipIdx_map_fst] at hr
  have hlen : shs.length < 16777216 := by omega
  have ha := add_0 (xs := ks kd.1) (by omega)
  have hmx := max_0 (ks kd.1)
  obtain ⟨m0, m1, m2⟩ := max_bd hk1
  refine ⟨S19 ns a most sch x4 (some (cdic (sch.map (·.1)) (kD ks))) (some (.lst ((shs ++ [Shf.mk (maxI (ks kd.1) 0 + 1 + p) rows]).map shD))) (some (.int j)) x8 x9 y10 (some (.lst (rows.map rwD))) (some (.str kd.1)) (some (.tup (kd.2.map fldD))) y14 y15 y16 y17 y18, ?_, _, _, _, _, _, _, _, _, _, _, _, _, shs ++ [Shf.mk (maxI (ks kd.1) 0 + 1 + p) rows], rfl, by simp [hsl], fun i kd' sh e1 e2 => ?_⟩
  · simp only [S19] at h1
    simp [turnD, S19, L__law_store_2, ftName, eVar, kndD, hs', enumL_map, h1, ha, hmx, hp', lstAt, optO, sizeLine_eq, hlen, shD]
  · by_cases hi : i < shs.length
    · rw [List.getElem?_append_left hi] at e2
      exact hso i kd' sh e1 e2
    · rw [List.getElem?_append_right (by omega)] at e2
      have hi0 : i - shs.length = 0 := by
        cases q : i - shs.length with
        | zero => rfl
        | succ _ => rw [q] at e2; simp at e2
      rw [hi0] at e2
      simp at e2
      subst e2
      have hij : i = j := by omega
      subst hij
      rw [hkd] at e1
      cases e1
      exact ⟨hr, fun k hk => by have := m2 k hk; show k < maxI (ks kd.1) 0 + 1 + p; omega, ⟨by show 1 ≤ maxI (ks kd.1) 0 + 1 + p; omega, by show maxI (ks kd.1) 0 + 1 + p ≤ _; omega⟩, ho⟩
theorem store_ok (ns : List Int) (a most : Nat) (hmost : most ≤ 900) {sch : List Knd} (h6 : sch.map (·.1) ∈ six) (hw : ∀ (j : Nat) (kd : Knd), sch[j]? = some kd → kndWf (sch.map (·.1)) j kd) :
    ∃ (ks : Str → List Int) (sto : List Shf), φ__law_store [A ns, .int a, schD sch, .int most] = .ok (stoD sto) ∧ sto.length = sch.length ∧ (∀ kd ∈ sch, KeysOk (ks kd.1) ∧ (ks kd.1).length ≤ most) ∧
      ∀ (i : Nat) (kd : Knd) (sh : Shf), sch[i]? = some kd → sto[i]? = some sh → ShOk ks kd sh := by
  obtain ⟨n1, n2, n3⟩ := six_facts h6
  have hl : sch.length ≤ 3 := by simpa using n2
  have wf : ∀ kd ∈ sch, ∃ j, kndWf (sch.map (·.1)) j kd := fun kd hm => by
    obtain ⟨j, hj, e⟩ := List.getElem_of_mem hm
    exact ⟨j, hw j kd (by rw [List.getElem?_eq_getElem hj, e])⟩
  have hg : ∀ kd ∈ sch, ∀ f ∈ kd.2, ∀ g, f.2.goal = some g → g ∈ sch.map (·.1) := fun kd hm f hf g e => by
    obtain ⟨j, w⟩ := wf kd hm
    obtain ⟨i, hi, ei⟩ := List.getElem_of_mem hf
    exact (w.2.2 i f (by rw [List.getElem?_eq_getElem hi, ei])).2.1 g e
  obtain ⟨c, hc1, hc2, hc3⟩ := counts_ok ns a most n3 hl hg
  obtain ⟨s1, h1, x7, x8, x9, x10, ks, rfl, hk⟩ := forD_run (I := IK0 ns a most sch c) (s := S19 ns a most sch (some (cdic (sch.map (·.1)) (cD c))) (some (.dic false [] [])) none none none none none none none none none none none none none)
    (f := fun p : Knd × Nat => D.tup [.int (p.2 : Nat), kndD p.1]) (xs := sch.zipIdx) ⟨none, none, none, none, fun _ => [], rfl, fun n m => by cases m⟩ (fun p b q s e i => store_step0 ns a most n3 hl (fun m => Nat.le_trans (hc2 m) hmost) p b q s e i)
  have e0 : sch.zipIdx.map (fun p : Knd × Nat => p.1.1) = sch.map (·.1) := by
    have : (fun p : Knd × Nat => p.1.1) = (fun k : Knd => k.1) ∘ Prod.fst := rfl
    rw [this, ← List.map_map, List.zipIdx_map_fst]
  rw [e0] at h1 hk
  have hk' : ∀ kd ∈ sch, KeysOk (ks kd.1) ∧ (ks kd.1).length = c kd.1 := fun kd hm => hk kd.1 (List.mem_map.mpr ⟨kd, hm, rfl⟩)
  have hz : ∀ kd ∈ sch, ks kd.1 ≠ [] → ∀ f ∈ kd.2, ∀ g r, f.2 = .lnk g false r → ks g ≠ [] := fun kd hm hne f hf g r e hgz => by
    have hgm : g ∈ sch.map (·.1) := hg kd hm f hf g (by rw [e]; rfl)
    have h0 : c g = 0 := by have := (hk g hgm).2; rw [hgz] at this; exact this.symm
    have := hc3 kd hm f hf g r e h0
    have hl := (hk' kd hm).2
    rw [this] at hl
    exact hne (List.length_eq_zero_iff.mp hl)
  obtain ⟨s2, h2, y7, y8, y9, y10, y11, y12, y13, y14, y15, y16, y17, y18, shs, rfl, hsl, hso⟩ := forD_run (I := IR2 ns a most sch ks (some (cdic (sch.map (·.1)) (cD c)))) (s := S19 ns a most sch (some (cdic (sch.map (·.1)) (cD c))) (some (cdic (sch.map (·.1)) (kD ks))) (some (.lst [])) x7 x8 x9 x10 none none none none none none none none)
    (f := fun p : Knd × Nat => D.tup [.int (p.2 : Nat), kndD p.1]) (xs := sch.zipIdx) ⟨x7, x8, x9, x10, none, none, none, none, none, none, none, none, [], rfl, rfl, fun i kd sh _ e => by simp at e⟩
    (fun p b q s e i => store_step2 ns a most hl ks _ (fun kd hm => ⟨(hk' kd hm).1, by rw [(hk' kd hm).2]; exact Nat.le_trans (hc2 _) hmost⟩) hg hz (fun kd hm => by obtain ⟨j, w⟩ := wf kd hm; exact w.2.1) p b q s e i)
  rw [List.length_zipIdx] at hsl
  refine ⟨ks, shs, ?_, hsl, fun kd hm => ⟨(hk' kd hm).1, by rw [(hk' kd hm).2]; exact hc2 _⟩, hso⟩
  simp only [schD] at hc1
  simp only [S19, schD] at h1 h2
  unfold φ__law_store runS ir__law_store
  simp [eVar, ftName, schD, hc1, enumL_map, h1, h2, sizeLine_eq, stoD]
end Pu

end
section
open Hr Wk PySem
namespace Pu
/-! ### plain data: equal to itself -/
inductive Smp : D → Prop
  | non : Smp .non
  | int (i : Int) : Smp (.int i)
  | str (x : Str) : Smp (.str x)
theorem Smp.eqv {d : D} (h : Smp d) : D.eqv d d = true := by
  cases h with
  | non => rfl
  | int i => show (i == i) = true; simp
  | str x => show (x == x) = true; simp
theorem Smp.pl {d : D} (h : Smp d) : d.pl = true := by cases h <;> rfl
theorem Smp.dep {d : D} (h : Smp d) : d.py.depth = 0 := by cases h <;> rfl
theorem smp_eqv : ∀ {ds : List D}, (∀ d ∈ ds, Smp d) → PyData.eqvAll (D.pys ds) (D.pys ds) = true
  | [], _ => rfl
  | d :: ds, h => by
    show (PyData.eqv d.py d.py && PyData.eqvAll (D.pys ds) (D.pys ds)) = true
    rw [smp_eqv fun x m => h x (List.mem_cons_of_mem _ m), Bool.and_true]
    exact (h d (List.mem_cons_self ..)).eqv
theorem smp_pls : ∀ {ds : List D}, (∀ d ∈ ds, Smp d) → D.pls ds = true
  | [], _ => rfl
  | d :: ds, h => by
    show (d.pl && D.pls ds) = true
    rw [smp_pls fun x m => h x (List.mem_cons_of_mem _ m), (h d (List.mem_cons_self ..)).pl]
    rfl
theorem smp_dep : ∀ {ds : List D}, (∀ d ∈ ds, Smp d) → PyData.depthAll (D.pys ds) = 0
  | [], _ => rfl
  | d :: ds, h => by
    show max d.py.depth (PyData.depthAll (D.pys ds)) = 0
    rw [smp_dep fun x m => h x (List.mem_cons_of_mem _ m), (h d (List.mem_cons_self ..)).dep]
    rfl
/-! ### names, places -/
theorem kind_names_ok (sch : List Knd) : φ_kind_names [schD sch] = .ok (.lst ((sch.map (·.1)).map D.str)) := by
  have h := lcA_over (f := kndD) (t := lcT (tgd (.nm 1)).f (den .no).t (den E_kind_names_0).v [some (schD sch), none]) (g := fun k : Knd => some (.str k.1)) (xs := sch) fun k _ => by
    simp [lcT, ftName, E_kind_names_0, eVar, kndD]
  have e : sch.filterMap (fun k : Knd => some (D.str k.1)) = (sch.map (·.1)).map D.str := by
    rw [List.map_map]
    have : (fun k : Knd => some (D.str k.1)) = some ∘ (D.str ∘ fun x : Knd => x.1) := rfl
    rw [this, List.filterMap_eq_map]
  rw [e] at h
  simp only [schD] at h
  unfold φ_kind_names runS ir_kind_names
  simp [eVar, schD, wipeE, h]
theorem str_smps (names : List Str) : ∀ d ∈ names.map D.str, Smp d := fun d m => by
  obtain ⟨x, _, rfl⟩ := List.mem_map.mp m
  exact .str x
theorem idxD_names : ∀ {names : List Str} {j : Nat} {nm : Str} (o : Nat), names.Nodup → names[j]? = some nm → idxD (.str nm) (names.map D.str) o = some (o + j)
  | [], j, nm, o, _, h => by simp at h
  | n :: ns, 0, nm, o, _, h => by
    simp at h
    subst h
    show (if D.eqv (.str n) (.str n) then some o else _) = _
    rw [if_pos (Smp.str n).eqv]
    rfl
  | n :: ns, j + 1, nm, o, nd, h => by
    have h' : ns[j]? = some nm := by simpa using h
    obtain ⟨h1, h2⟩ := List.nodup_cons.mp nd
    have hne : n ≠ nm := fun e => h1 (by rw [e]; exact List.mem_of_getElem? h')
    show (if D.eqv (.str n) (.str nm) then some o else idxD (.str nm) (ns.map D.str) (o + 1)) = _
    have : D.eqv (.str n) (.str nm) = false := by show (n == nm) = false; simpa using hne
    rw [this]
    simp only [Bool.false_eq_true, if_false]
    rw [idxD_names (o + 1) h2 h']
    congr 1
    omega
theorem index_names {names : List Str} {j : Nat} {nm : Str} (nd : names.Nodup) (h : names[j]? = some nm) : dIndex (names.map D.str) (.str nm) = .ok (.int (j : Nat)) := by
  unfold dIndex
  rw [if_pos, idxD_names 0 nd h]
  · simp
  · rw [smp_pls (str_smps names), smp_dep (str_smps names)]
    rfl
/-- a schema and a store that go together -/
structure SS (sch : List Knd) (sto : List Shf) : Prop where
  nd : (sch.map (·.1)).Nodup
  len : sto.length = sch.length
theorem names_get {sch : List Knd} {j : Nat} {kd : Knd} (h : sch[j]? = some kd) : (sch.map (·.1))[j]? = some kd.1 := by rw [List.getElem?_map, h]; rfl
theorem shelf_ok {sch : List Knd} {sto : List Shf} (w : SS sch sto) {j : Nat} {kd : Knd} {sh : Shf} (h1 : sch[j]? = some kd) (h2 : sto[j]? = some sh) : φ_shelf_of [schD sch, stoD sto, .str kd.1] = .ok (shD sh) := by
  have hi := index_names w.nd (names_get h1)
  have hn := kind_names_ok sch
  have hs : dSub2 (.tup (sto.map shD)) (.int (j : Nat)) = .ok (shD sh) := sub_t (by rw [List.getElem?_map, h2]; rfl)
  unfold φ_shelf_of runS ir_shelf_of
  simp [eVar, hn, hi, stoD, hs, -List.map_map]
theorem fields_ok {sch : List Knd} (nd : (sch.map (·.1)).Nodup) {j : Nat} {kd : Knd} (h1 : sch[j]? = some kd) : φ_fields_of [schD sch, .str kd.1] = .ok (.tup (kd.2.map fldD)) := by
  have hi := index_names nd (names_get h1)
  have hn := kind_names_ok sch
  have hs : dSub2 (.tup (sch.map kndD)) (.int (j : Nat)) = .ok (kndD kd) := sub_t (by rw [List.getElem?_map, h1]; rfl)
  unfold φ_fields_of runS ir_fields_of
  simp only [schD] at hn
  simp [eVar, hn, hi, schD, hs, -List.map_map]
  simp [kndD]
theorem filterMap_if {α β : Type} (b : α → Bool) (f : α → β) : ∀ l : List α, l.filterMap (fun p => if b p then some (f p) else none) = (l.filter b).map f
  | [] => rfl
  | a :: l => by
    rw [List.filterMap_cons, List.filter_cons, filterMap_if b f l]
    cases b a <;> rfl
def Srt.isLnk : Srt → Bool
  | .lnk _ _ _ => true
  | _ => false
theorem plain_is (s : Srt) : φ_is_plain [s.d] = .ok (.bl (!s.isLnk)) := by
  unfold φ_is_plain runS ir_is_plain
  cases s <;> simp [eVar, Srt.d, isTy, Srt.isLnk]
theorem links_fields_ok {sch : List Knd} (nd : (sch.map (·.1)).Nodup) {j : Nat} {kd : Knd} (h1 : sch[j]? = some kd) :
    φ_link_fields [schD sch, .str kd.1] = .ok (.lst ((kd.2.zipIdx.filter fun p => p.1.2.isLnk).map fun p => .tup [.int (p.2 : Nat), p.1.2.d])) := by
  have hf := fields_ok nd h1
  have h := lcA_over (f := fun p : Fld × Nat => D.tup [.int (p.2 : Nat), fldD p.1]) (t := lcT (tgd (.tp (.cons (.nm 2) (.cons (.nm 3) .nil)))).f (den J_link_fields_0).t (den E_link_fields_0).v [some (schD sch), some (.str kd.1), none, none])
    (g := fun p : Fld × Nat => if p.1.2.isLnk then some (D.tup [.int (p.2 : Nat), p.1.2.d]) else none) (xs := kd.2.zipIdx) fun p _ => by
      have hp := plain_is p.1.2
      cases q : p.1.2.isLnk with
      | true => rw [q] at hp; simp [lcT, ftName, E_link_fields_0, J_link_fields_0, eVar, fldD, hp, sizeLine_eq]
      | false => rw [q] at hp; simp [lcT, ftName, E_link_fields_0, J_link_fields_0, eVar, fldD, hp, sizeLine_eq]
  have e : kd.2.zipIdx.filterMap (fun p : Fld × Nat => if p.1.2.isLnk then some (D.tup [.int (p.2 : Nat), p.1.2.d]) else none) = (kd.2.zipIdx.filter fun p => p.1.2.isLnk).map fun p => .tup [.int (p.2 : Nat), p.1.2.d] := by
    exact filterMap_if _ _ _
  rw [e] at h
  unfold φ_link_fields runS ir_link_fields
  simp [eVar, hf, wipeE, enumL_map, h]
end Pu

end
section
open Hr Wk PySem
namespace Pu
/-! ### GZ: of no law alone -/
theorem cut_to (xs : List D) (k : Nat) : dSl (.tup xs) none (some (k : Int)) = .ok (.tup (xs.take k)) := by
  show R.ok (D.tup (cutD xs none (some (k : Int)))) = _
  unfold cutD
  rw [HT.sIx_none, HT.sIx_nat, List.drop_zero, Nat.sub_zero, List.take_eq_take_iff.mpr]
  omega
theorem cut_from (xs : List D) (k : Nat) : dSl (.tup xs) (some (k : Int)) none = .ok (.tup (xs.drop k)) := by
  show R.ok (D.tup (cutD xs (some (k : Int)) none)) = _
  unfold cutD
  rw [HT.sIx_none, HT.sIx_nat]
  congr 2
  by_cases h : k ≤ xs.length
  · rw [Nat.min_eq_left h, List.take_of_length_le (by rw [List.length_drop]; exact Nat.le_refl _)]
  · rw [Nat.min_eq_right (by omega), List.drop_length, List.drop_eq_nil_of_le (by omega)]
    simp
theorem add_t {a b : List D} (h : a.length + b.length ≤ 10000) : dAdd (.tup a) (.tup b) = .ok (.tup (a ++ b)) := by
  show (if _ then _ else _) = _
  rw [if_pos (by rw [sizeLine_eq]; omega)]
theorem set_cut {α : Type} {l : List α} {j : Nat} (x : α) (h : j < l.length) : l.take j ++ [x] ++ l.drop (j + 1) = l.set j x := by
  rw [List.set_eq_take_append_cons_drop, if_pos h, List.append_assoc]
  rfl
mutual
def flat : Nat → D → Bool
  | _, .non => true
  | _, .bl _ => true
  | _, .int _ => true
  | _, .str _ => true
  | 0, .tup _ => false
  | 0, .lst _ => false
  | n + 1, .tup ds => flats n ds
  | n + 1, .lst ds => flats n ds
  | _, _ => false
def flats : Nat → List D → Bool
  | _, [] => true
  | n, d :: ds => flat n d && flats n ds
end
mutual
theorem flat_ok : ∀ (n : Nat) (d : D), flat n d = true → d.pl = true ∧ d.py.depth ≤ n ∧ PyData.eqv d.py d.py = true
  | _, .non, _ => ⟨rfl, Nat.zero_le _, rfl⟩
  | _, .bl b, _ => ⟨rfl, Nat.zero_le _, by show (b == b) = true; simp⟩
  | _, .int i, _ => ⟨rfl, Nat.zero_le _, by show (i == i) = true; simp⟩
  | _, .str x, _ => ⟨rfl, Nat.zero_le _, by show (x == x) = true; simp⟩
  | n + 1, .tup ds, h => by
    obtain ⟨h1, h2, h3⟩ := flats_ok n ds (by simpa [flat] using h)
    exact ⟨h1, Nat.succ_le_succ h2, h3⟩
  | n + 1, .lst ds, h => by
    obtain ⟨h1, h2, h3⟩ := flats_ok n ds (by simpa [flat] using h)
    exact ⟨h1, Nat.succ_le_succ h2, h3⟩
  | 0, .tup ds, h => by simp [flat] at h
  | 0, .lst ds, h => by simp [flat] at h
  | _, .arr _, h => by simp [flat] at h
  | _, .kt _, h => by simp [flat] at h
  | _, .exc _, h => by simp [flat] at h
  | _, .dic _ _ _, h => by simp [flat] at h
theorem flats_ok : ∀ (n : Nat) (ds : List D), flats n ds = true → D.pls ds = true ∧ PyData.depthAll (D.pys ds) ≤ n ∧ PyData.eqvAll (D.pys ds) (D.pys ds) = true
  | _, [], _ => ⟨rfl, Nat.zero_le _, rfl⟩
  | n, d :: ds, h => by
    obtain ⟨h1, h2⟩ := Bool.and_eq_true_iff.mp (show (flat n d && flats n ds) = true by simpa [flats] using h)
    obtain ⟨a1, a2, a3⟩ := flat_ok n d h1
    obtain ⟨b1, b2, b3⟩ := flats_ok n ds h2
    refine ⟨by show (d.pl && D.pls ds) = true; rw [a1, b1]; rfl, ?_, by show (PyData.eqv d.py d.py && PyData.eqvAll (D.pys ds) (D.pys ds)) = true; rw [a3, b3]; rfl⟩
    show max d.py.depth (PyData.depthAll (D.pys ds)) ≤ n
    omega
end
theorem flats_of {n : Nat} : ∀ {ds : List D}, (∀ d ∈ ds, flat n d = true) → flats n ds = true
  | [], _ => by simp [flats]
  | d :: ds, h => by simp [flats, h d (List.mem_cons_self ..), flats_of fun x m => h x (List.mem_cons_of_mem _ m)]
theorem eq_self {n : Nat} {d : D} (h : flat n d = true) (hn : n ≤ 60) : dEq d d = .ok true := by
  obtain ⟨h1, h2, h3⟩ := flat_ok n d h
  unfold dEq D.dep D.eqv
  rw [h1, h3, if_pos]
  simp
  omega
theorem forD_findM {α : Type} {f : α → D} {ft : FT} {body : En → Out} {J : En → Prop} {P : α → Bool} {d : D} : ∀ (xs : List α) (s : En), J s → (∀ a ∈ xs, ∀ s, J s → P a = true → turnD ft body (f a) s = .rt d) → (∀ a ∈ xs, ∀ s, J s → P a = false → ∃ s', turnD ft body (f a) s = .nx s' ∧ J s') →
    (xs.any P = true ∧ forD ft body (xs.map f) s = .rt d) ∨ (xs.any P = false ∧ ∃ s', forD ft body (xs.map f) s = .nx s' ∧ J s')
  | [], s, j, _, _ => .inr ⟨rfl, s, rfl, j⟩
  | a :: xs, s, j, ht, hn => by
    have e : forD ft body ((a :: xs).map f) s = match turnD ft body (f a) s with
      | .nx s' => forD ft body (xs.map f) s'
      | .ct s' => forD ft body (xs.map f) s'
      | .bk s' => .nx s'
      | .rt d => .rt d
      | .ex c s' => .ex c s'
      | .stuck => .stuck := by
      show (match ft (f a) s with | none => Out.stuck | some s1 => _) = _
      unfold turnD
      cases ft (f a) s <;> rfl
    rw [e, List.any_cons]
    cases q : P a with
    | true => exact .inl ⟨rfl, by rw [ht a (List.mem_cons_self ..) s j q]⟩
    | false =>
      obtain ⟨s', h1, j'⟩ := hn a (List.mem_cons_self ..) s j q
      rw [h1]
      exact forD_findM xs s' j' (fun x m => ht x (List.mem_cons_of_mem _ m)) (fun x m => hn x (List.mem_cons_of_mem _ m))
theorem strs_nil {α : Type} (f : α → Str) (xs : List α) : dEq (.lst (xs.map fun a => D.str (f a))) (.lst []) = .ok xs.isEmpty := by
  cases xs with
  | nil => rfl
  | cons a xs =>
    unfold dEq
    have h1 : ∀ ys : List α, D.pls (ys.map fun a => D.str (f a)) = true := fun ys => by
      induction ys with
      | nil => rfl
      | cons b ys ih => show (true && D.pls _) = true; rw [ih]; rfl
    have h2 : (D.lst ((a :: xs).map fun a => D.str (f a))).pl = true := h1 (a :: xs)
    have h3 : (D.lst []).dep ≤ 60 := by decide
    have h4 : (D.lst []).pl = true := rfl
    rw [h2, h4, if_pos (by simp; omega)]
    rfl
theorem forD_any {α : Type} {f : α → D} {ft : FT} {body : En → Out} {J : En → Prop} {P : α → Bool} {d : D} (xs : List α) (s : En) (j : J s) (h1 : ∀ a ∈ xs, ∀ s, J s → P a = true → turnD ft body (f a) s = .rt d) (h2 : ∀ a ∈ xs, ∀ s, J s → P a = false → ∃ s', turnD ft body (f a) s = .nx s' ∧ J s') :
    (xs.any P = true → forD ft body (xs.map f) s = .rt d) ∧ (xs.any P = false → ∃ s', forD ft body (xs.map f) s = .nx s' ∧ J s') := by
  rcases forD_findM xs s j h1 h2 with ⟨q, h⟩ | ⟨q, h⟩
  · exact ⟨fun _ => h, fun z => by rw [q] at z; cases z⟩
  · exact ⟨fun z => (by rw [q] at z; cases z), fun _ => h⟩
theorem not_in {x : D} {l : D} {b : Bool} (h : dIn x l = .ok b) : dCmp .NotIn x l = .ok (!b) := by show (dIn x l >>= fun c => pure (!c)) = _; rw [h]; rfl
theorem forD_cons {ft : FT} {body : En → Out} {d : D} {ds : List D} {s s' : En} (h : turnD ft body d s = .nx s') : forD ft body (d :: ds) s = forD ft body ds s' := by
  show (match ft d s with | none => Out.stuck | some s1 => _) = _
  unfold turnD at h
  cases q : ft d s with
  | none => rw [q] at h; cases h
  | some s1 =>
    rw [q] at h
    have h : body s1 = .nx s' := h
    dsimp only
    rw [h]
theorem arr_nil (ns : List Int) : dEq (.arr (ns.map D.int)) (.lst []) = .ok ns.isEmpty := by
  unfold dEq
  have h1 : (D.arr (ns.map D.int)).pl = true := pls_ints ns
  have h2 : (D.lst []).pl = true := rfl
  have h3 : (D.lst []).dep ≤ 60 := by decide
  rw [h1, h2, if_pos (by simp; omega)]
  cases ns with
  | nil => rfl
  | cons n ns => rfl
theorem forD_bk {ft : FT} {body : En → Out} {d : D} {ds : List D} {s s' : En} (h : turnD ft body d s = .bk s') : forD ft body (d :: ds) s = .nx s' := by
  unfold turnD at h
  unfold forD
  cases q : ft d s with
  | none => rw [q] at h; cases h
  | some s1 =>
    rw [q] at h
    have h : body s1 = .bk s' := h
    dsimp only
    rw [h]
theorem add_l {a b : List D} (h : a.length + b.length ≤ 10000) : dAdd (.lst a) (.lst b) = .ok (.lst (a ++ b)) := by
  show (if _ then _ else _) = _
  rw [if_pos (by rw [sizeLine_eq]; omega)]
theorem eq_pl {a b : D} (ha : a.pl = true) (hb : b.pl = true) (hd : b.dep ≤ 60) : dEq a b = .ok (D.eqv a b) := by
  unfold dEq
  rw [ha, hb, if_pos (by simp; omega)]
theorem tup_ne {a b : Str} {l r : List D} (h : (a == b) = false) : D.eqv (.tup (.str a :: l)) (.tup (.str b :: r)) = false := by
  show (a == b && PyData.eqvAll (D.pys l) (D.pys r)) = false
  rw [h]; rfl
theorem beq_sym (a b : Str) : (a == b) = (b == a) := by rw [Bool.eq_iff_iff, beq_iff_eq, beq_iff_eq]; exact eq_comm
theorem fm_some {α : Type} (g : α → D) (xs : List α) : xs.filterMap (fun a => some (g a)) = xs.map g := by
  rw [← List.filterMap_eq_map]; rfl
theorem boolsD_map {α : Type} (g : α → Bool) : ∀ xs : List α, boolsD (xs.map fun a => D.bl (g a)) = some (xs.map g)
  | [] => rfl
  | a :: xs => by show (boolsD (xs.map fun a => D.bl (g a))).map _ = _; rw [boolsD_map g xs]; rfl
theorem all_map {α : Type} (g : α → Bool) (xs : List α) : biF .all [.lst (xs.map fun a => D.bl (g a))] = .ok (.bl (xs.all g)) := by
  show R.of ((boolsD _).map _) = _
  rw [boolsD_map]
  show R.ok (D.bl ((xs.map g).all id)) = _
  rw [List.all_map]
  rfl
theorem mem_insD {α : Type} {le : α → α → Bool} {a x : α} : ∀ {l : List α}, x ∈ insD le a l → x = a ∨ x ∈ l
  | [], h => .inl (List.mem_singleton.mp h)
  | b :: l, h => by
    unfold insD at h
    split at h
    · rcases List.mem_cons.mp h with e | e
      · exact .inl e
      · exact .inr e
    · rcases List.mem_cons.mp h with e | e
      · exact .inr (by rw [e]; exact List.mem_cons_self ..)
      · exact (mem_insD e).imp id fun z => List.mem_cons_of_mem _ z
theorem mem_isort {α : Type} {le : α → α → Bool} {x : α} : ∀ {l : List α}, x ∈ isort le l → x ∈ l
  | [], h => h
  | a :: l, h => by
    rcases mem_insD h with e | e
    · rw [e]; exact List.mem_cons_self ..
    · exact List.mem_cons_of_mem _ (mem_isort e)
theorem any_D {α : Type} (g : α → Bool) (xs : List α) : biF .any [.lst (xs.map fun a => D.bl (g a))] = .ok (.bl (xs.any g)) := by
  show R.of ((boolsD _).map _) = _
  rw [boolsD_map]
  show R.ok (D.bl ((xs.map g).any id)) = _
  rw [List.any_map]
  rfl
theorem lst_nilG {n : Nat} {xs : List D} (h : flats n xs = true) : dEq (.lst xs) (.lst []) = .ok xs.isEmpty := by
  unfold dEq
  have h1 : (D.lst xs).pl = true := (flats_ok n xs h).1
  have h2 : (D.lst []).pl = true := rfl
  have h3 : (D.lst []).dep ≤ 60 := by decide
  rw [h1, h2, if_pos (by simp; omega)]
  cases xs with
  | nil => rfl
  | cons n ns => rfl
theorem tup_nilG {n : Nat} {xs : List D} (h : flats n xs = true) : dEq (.tup xs) (.tup []) = .ok xs.isEmpty := by
  unfold dEq
  have h1 : (D.tup xs).pl = true := (flats_ok n xs h).1
  have h2 : (D.tup []).pl = true := rfl
  have h3 : (D.tup []).dep ≤ 60 := by decide
  rw [h1, h2, if_pos (by simp; omega)]
  cases xs with
  | nil => rfl
  | cons n ns => rfl
theorem sub_ts {xs : List D} {i : Int} {n : Nat} (h : xs.length = n) (h0 : 0 ≤ i) (h1 : i < n) : ∃ x, dSub2 (.tup xs) (.int i) = .ok x ∧ xs[i.toNat]? = some x := by
  have hk : i.toNat < xs.length := by omega
  have e : ((i.toNat : Nat) : Int) = i := by omega
  have := sub_t (List.getElem?_eq_getElem hk)
  rw [e] at this
  exact ⟨_, this, List.getElem?_eq_getElem hk⟩
theorem zip_at {α β : Type} {l : List α} {m : List β} {pre post : List (α × β)} {b : α × β} (h : l.zip m = pre ++ b :: post) : l[pre.length]? = some b.1 ∧ m[pre.length]? = some b.2 := by
  have e : (l.zip m)[pre.length]? = some b := by rw [h, List.getElem?_append_right (Nat.le_refl _), Nat.sub_self]; rfl
  rw [List.getElem?_zip_eq_some] at e
  exact e
end Pu

end
section
open Hr Wk PySem
namespace Pu
/-! stores by their shape alone -/
def ValS : Srt → D → Prop
  | .lnk _ _ _, d => (d = .non ∧ True) ∨ ∃ k : Int, True ∧ d = .int k
  | s, d => IsPlain s d
structure RowS (fs : List Fld) (r : Rw) : Prop where
  len : r.vals.length = fs.length
  val : ∀ (i : Nat) (f : Fld) (d : D), fs[i]? = some f → r.vals[i]? = some d → ValS f.2 d
structure ShS (kd : Knd) (sh : Shf) : Prop where
  rows : ∀ r ∈ sh.rows, RowS kd.2 r
theorem ValOk.s {ks : Str → List Int} {s : Srt} {d : D} (h : ValOk ks s d) : ValS s d := by
  cases s with
  | num => exact h
  | txt => exact h
  | lnk g m r => rcases h with ⟨e, _⟩ | ⟨k, _, e⟩; exact .inl ⟨e, trivial⟩; exact .inr ⟨k, trivial, e⟩
theorem RwOk.s {ks : Str → List Int} {fs : List Fld} {r : Rw} (h : RwOk ks fs r) : RowS fs r := ⟨h.len, fun i f d e1 e2 => (h.val i f d e1 e2).s⟩
theorem ShOk.s {ks : Str → List Int} {kd : Knd} {sh : Shf} (h : ShOk ks kd sh) : ShS kd sh := ⟨fun r m => (h.rows r m).s⟩
end Pu

end
section
open Hr Wk PySem
namespace Pu
def isK (key : Int) : Option D → Bool
  | some (.int k) => k == key
  | _ => false
def lnkOf (nm : Str) (key : Int) (kd : Knd) (r : Rw) (p : Fld × Nat) : Option D := match p.1.2 with
  | .lnk g _ _ => if (g == nm && isK key (r.vals[p.2]?)) = true then some (.tup [.str kd.1, .int r.key, .str p.1.1]) else none
  | _ => none
def valAt (vals : List D) (i : Nat) : D := vals.getD i .non
def rowL (nm : Str) (key : Int) (kd : Knd) (r : Rw) : List D := kd.2.zipIdx.filterMap (lnkOf nm key kd r)
def kindL (nm : Str) (key : Int) (p : Knd × Shf) : List D := p.2.rows.flatMap (rowL nm key p.1)
def allL (nm : Str) (key : Int) (sch : List Knd) (sto : List Shf) : List D := (sch.zip sto).flatMap (kindL nm key)
theorem rowL_len (nm : Str) (key : Int) (kd : Knd) (r : Rw) : (rowL nm key kd r).length ≤ kd.2.length := by
  have := List.length_filterMap_le (lnkOf nm key kd r) kd.2.zipIdx
  rw [List.length_zipIdx] at this
  exact this
theorem flat_len {α : Type} {g : α → List D} {n : Nat} : ∀ {l : List α}, (∀ a ∈ l, (g a).length ≤ n) → (l.flatMap g).length ≤ n * l.length
  | [], _ => Nat.zero_le _
  | a :: l, h => by
    have h1 := h a (List.mem_cons_self ..)
    have h2 := flat_len (g := g) (l := l) fun x m => h x (List.mem_cons_of_mem _ m)
    rw [List.flatMap_cons, List.length_append, List.length_cons, Nat.mul_succ]
    omega
theorem zipL_idx {fs : List Fld} {vals : List D} (h : vals.length = fs.length) : zipL (fs.map fldD) vals = fs.zipIdx.map fun p => .tup [fldD p.1, valAt vals p.2] := by
  apply List.ext_getElem?
  intro i
  unfold zipL
  rw [List.getElem?_zipWith, List.getElem?_map, List.getElem?_map, List.getElem?_zipIdx]
  by_cases hi : i < fs.length
  · rw [List.getElem?_eq_getElem hi, List.getElem?_eq_getElem (by omega)]
    simp [valAt, List.getD_eq_getElem?_getD, List.getElem?_eq_getElem (show i < vals.length by omega)]
  · rw [List.getElem?_eq_none (by omega), List.getElem?_eq_none (by omega)]
    simp
/-- the value of a link, asked by a key -/
theorem val_key {g : Str} {m : Bool} {r : Str} {v : D} (h : ValS (.lnk g m r) v) (key : Int) : dEq v (.int key) = .ok (isK key (some v)) := by
  rcases h with ⟨rfl, _⟩ | ⟨k, _, rfl⟩
  · rfl
  · rfl
theorem zipIdx_mem {α : Type} {l : List α} {a : α} {i : Nat} {pre post : List (α × Nat)} (h : l.zipIdx = pre ++ (a, i) :: post) : l[i]? = some a := (zipIdx_at h).2.1
@[simp] theorem link_link : (("link" : Str) == ("link" : Str)) = true := by decide +kernel
/-! the law's look -/
def E12 (sch : List Knd) (sto : List Shf) (nm : Str) (key : Int) (made : List D) (x5 x6 x7 x8 x9 x10 x11 : Option D) : En := [some (schD sch), some (stoD sto), some (.str nm), some (.int key), some (.lst made), x5, x6, x7, x8, x9, x10, x11]
def IL2 (sch : List Knd) (sto : List Shf) (nm : Str) (key : Int) (kd : Knd) (r : Rw) (acc : List D) (x5 : Option D) (pre : List (Fld × Nat)) (s : En) : Prop := ∃ x9 x10 x11 : Option D, s = E12 sch sto nm key (acc ++ pre.filterMap (lnkOf nm key kd r)) x5 (some (rwD r)) (some (.str kd.1)) (some (.tup (kd.2.map fldD))) x9 x10 x11
def IL1 (sch : List Knd) (sto : List Shf) (nm : Str) (key : Int) (kd : Knd) (acc : List D) (x5 : Option D) (pre : List Rw) (s : En) : Prop := ∃ x6 x9 x10 x11 : Option D, s = E12 sch sto nm key (acc ++ pre.flatMap (rowL nm key kd)) x5 x6 (some (.str kd.1)) (some (.tup (kd.2.map fldD))) x9 x10 x11
def IL0 (sch : List Knd) (sto : List Shf) (nm : Str) (key : Int) (pre : List (Knd × Shf)) (s : En) : Prop := ∃ x5 x6 x7 x8 x9 x10 x11 : Option D, s = E12 sch sto nm key (pre.flatMap (kindL nm key)) x5 x6 x7 x8 x9 x10 x11
theorem kindL_len {nm : Str} {key : Int} {p : Knd × Shf} (hf : p.1.2.length ≤ 8) (hr : p.2.rows.length ≤ 900) : (kindL nm key p).length ≤ 7200 := by
  have := flat_len (g := rowL nm key p.1) (n := 8) (l := p.2.rows) fun a _ => Nat.le_trans (rowL_len nm key p.1 a) hf
  unfold kindL
  omega
end Pu

end
section
open Hr Wk PySem
namespace Pu
def Tri (d : D) : Prop := ∃ (a : Str) (k : Int) (b : Str), d = .tup [.str a, .int k, .str b]
theorem tri_all {nm : Str} {key : Int} {sch : List Knd} {sto : List Shf} : ∀ d ∈ allL nm key sch sto, Tri d := by
  intro d hd
  obtain ⟨p, _, hd⟩ := List.mem_flatMap.mp hd
  obtain ⟨r, _, hd⟩ := List.mem_flatMap.mp hd
  obtain ⟨q, _, hd⟩ := List.mem_filterMap.mp hd
  unfold lnkOf at hd
  split at hd
  · split at hd
    · cases hd; exact ⟨_, _, _, rfl⟩
    · cases hd
  · cases hd
theorem sortOk_tri {ds : List D} (h : ∀ d ∈ ds, Tri d) : sortOk ds = true := by
  have pls : ∀ ds : List D, (∀ d ∈ ds, Tri d) → D.pls ds = true := by
    intro ds
    induction ds with
    | nil => intro _; rfl
    | cons d ds ih =>
      intro h
      obtain ⟨a, k, b, rfl⟩ := h d (List.mem_cons_self ..)
      show (true && D.pls ds) = true
      rw [ih fun x m => h x (List.mem_cons_of_mem _ m)]; rfl
  unfold sortOk
  rw [Bool.and_eq_true, Bool.and_eq_true, Bool.and_eq_true]
  refine ⟨⟨⟨pls ds h, ?_⟩, ?_⟩, ?_⟩
  · rw [List.all_eq_true]
    intro x hx
    rw [List.all_eq_true]
    intro y hy
    obtain ⟨a, k, b, rfl⟩ := h x hx
    obtain ⟨a', k', b', rfl⟩ := h y hy
    rfl
  · rw [Bool.or_eq_true]
    left
    rw [List.all_eq_true]
    intro x hx
    obtain ⟨a, k, b, rfl⟩ := h x hx
    rfl
  · rw [List.all_eq_true]
    intro x hx
    obtain ⟨a, k, b, rfl⟩ := h x hx
    rfl
theorem sorted_tri {ds : List D} (h : ∀ d ∈ ds, Tri d) : biF .sorted [.lst ds] = .ok (.lst (isort leD ds)) := by
  show (if sortOk ds = true then _ else _) = _
  rw [if_pos (sortOk_tri h)]
/-- drawn schema and store -/
structure Sto (sch : List Knd) (sto : List Shf) : Prop where
  ss : SS sch sto
  few : sch.length ≤ 8
  fl : ∀ kd ∈ sch, kd.2.length ≤ 8
  sh : ∀ (i : Nat) (kd : Knd) (sh : Shf), sch[i]? = some kd → sto[i]? = some sh → ShS kd sh
  rw : ∀ sh ∈ sto, sh.rows.length ≤ 900
theorem Sto.at_ {sch : List Knd} {sto : List Shf} (w : Sto sch sto) {p : Knd × Shf} (h : p ∈ sch.zip sto) : ∃ i : Nat, sch[i]? = some p.1 ∧ sto[i]? = some p.2 ∧ ShS p.1 p.2 ∧ p.1.2.length ≤ 8 ∧ p.2.rows.length ≤ 900 := by
  obtain ⟨pre, post, e⟩ := List.append_of_mem h
  obtain ⟨h1, h2⟩ := zip_at e
  exact ⟨_, h1, h2, w.sh _ _ _ h1 h2, w.fl _ (List.mem_of_getElem? h1), w.rw _ (List.mem_of_getElem? h2)⟩
/-! the program's look -/
def E10 (sch : List Knd) (sto : List Shf) (nm : Str) (key : Int) (made : List D) (x5 x6 x7 x8 x9 : Option D) : En := [some (schD sch), some (stoD sto), some (.str nm), some (.int key), some (.lst made), x5, x6, x7, x8, x9]
def JL2 (sch : List Knd) (sto : List Shf) (nm : Str) (key : Int) (kd : Knd) (r : Rw) (acc : List D) (pre : List (Fld × Nat)) (s : En) : Prop := ∃ x8 x9 : Option D, s = E10 sch sto nm key (acc ++ pre.filterMap (lnkOf nm key kd r)) (some (.str kd.1)) (some (.tup (kd.2.map fldD))) (some (rwD r)) x8 x9
theorem rowL_links (nm : Str) (key : Int) (kd : Knd) (r : Rw) : (kd.2.zipIdx.filter fun p => p.1.2.isLnk).filterMap (lnkOf nm key kd r) = rowL nm key kd r := by
  unfold rowL
  rw [List.filterMap_filter]
  congr 1
  funext p
  obtain ⟨⟨fnm, srt⟩, i⟩ := p
  cases srt <;> simp [Srt.isLnk, lnkOf]
def JL1 (sch : List Knd) (sto : List Shf) (nm : Str) (key : Int) (kd : Knd) (acc : List D) (pre : List Rw) (s : En) : Prop := ∃ x7 x8 x9 : Option D, s = E10 sch sto nm key (acc ++ pre.flatMap (rowL nm key kd)) (some (.str kd.1)) (some (.tup (kd.2.map fldD))) x7 x8 x9
def JL0 (sch : List Knd) (sto : List Shf) (nm : Str) (key : Int) (pre : List (Knd × Shf)) (s : En) : Prop := ∃ x5 x6 x7 x8 x9 : Option D, s = E10 sch sto nm key (pre.flatMap (kindL nm key)) x5 x6 x7 x8 x9
end Pu

end
section
open Hr Wk PySem
namespace Pu
theorem forD_find {α : Type} {f : α → D} {ft : FT} {body : En → Out} {J : En → Prop} {P : α → Bool} {g : α → D} (ht : ∀ a s, J s → P a = true → turnD ft body (f a) s = .rt (g a)) (hn : ∀ a s, J s → P a = false → ∃ s', turnD ft body (f a) s = .nx s' ∧ J s') :
    ∀ (xs : List α) (s : En), J s → (∃ a, xs.find? P = some a ∧ forD ft body (xs.map f) s = .rt (g a)) ∨ (xs.find? P = none ∧ ∃ s', forD ft body (xs.map f) s = .nx s' ∧ J s')
  | [], s, j => .inr ⟨rfl, s, rfl, j⟩
  | a :: xs, s, j => by
    have e : forD ft body ((a :: xs).map f) s = match turnD ft body (f a) s with
      | .nx s' => forD ft body (xs.map f) s'
      | .ct s' => forD ft body (xs.map f) s'
      | .bk s' => .nx s'
      | .rt d => .rt d
      | .ex c s' => .ex c s'
      | .stuck => .stuck := by
      show (match ft (f a) s with | none => Out.stuck | some s1 => _) = _
      unfold turnD
      cases ft (f a) s <;> rfl
    rw [e, List.find?_cons]
    cases q : P a with
    | true => exact .inl ⟨a, rfl, by rw [ht a s j q]⟩
    | false =>
      obtain ⟨s', h1, j'⟩ := hn a s j q
      rw [h1]
      exact forD_find ht hn xs s' j'
theorem row_in_ok {sch : List Knd} {sto : List Shf} (w : SS sch sto) {j : Nat} {kd : Knd} {sh : Shf} (h1 : sch[j]? = some kd) (h2 : sto[j]? = some sh) (key : Int) :
    φ_row_in [schD sch, stoD sto, .str kd.1, .int key] = match sh.rows.find? (fun r => r.key == key) with
      | some r => .ok (.tup [.int r.ver, .tup r.vals])
      | none => .exc "NoRow" := by
  have hs := shelf_ok w h1 h2
  simp only [shD] at hs
  have h := forD_find (f := rwD) (ft := (tgd (.nm 4)).f) (body := dS L_row_in_0) (J := fun s => ∃ x4, s = [some (schD sch), some (stoD sto), some (.str kd.1), some (.int key), x4]) (P := fun r : Rw => r.key == key) (g := fun r => D.tup [.int r.ver, .tup r.vals])
    (fun r s ⟨x4, e⟩ hp => by subst e; simp [turnD, ftName, L_row_in_0, eVar, rwD, hp, sizeLine_eq])
    (fun r s ⟨x4, e⟩ hp => by subst e; exact ⟨_, by simp [turnD, ftName, L_row_in_0, eVar, rwD, hp]; rfl, _, rfl⟩)
    sh.rows [some (schD sch), some (stoD sto), some (.str kd.1), some (.int key), none] ⟨none, rfl⟩
  unfold φ_row_in runS ir_row_in
  rcases h with ⟨r, e1, e2⟩ | ⟨e1, s', e2, x4, rfl⟩
  · rw [e1]
    simp [eVar, hs, e2]
  · rw [e1]
    simp [eVar, hs, e2]
end Pu

end
section
open Hr Wk PySem
namespace Pu
/-! ### slices -/
/-! ### plain data of some depth -/
/-! ### stores -/
structure WS (sch : List Knd) (sto : List Shf) : Prop where
  st : Sto sch sto
  goal : ∀ kd ∈ sch, ∀ f ∈ kd.2, ∀ g, f.2.goal = some g → g ∈ sch.map (·.1)
  pos : ∀ kd ∈ sch, 1 ≤ kd.2.length
theorem ValS.flat {s : Srt} {d : D} (h : ValS s d) : flat 0 d = true := by
  cases s with
  | num => obtain ⟨v, rfl, _⟩ := h; simp [Pu.flat]
  | txt => obtain ⟨x, rfl, _⟩ := h; simp [Pu.flat]
  | lnk g m r => rcases h with ⟨rfl, _⟩ | ⟨k, _, rfl⟩ <;> simp [Pu.flat]
theorem RowS.flat {fs : List Fld} {r : Rw} (h : RowS fs r) : flats 0 r.vals = true := flats_of fun d m => by
  obtain ⟨i, hi, e⟩ := List.getElem_of_mem m
  have hl := h.len
  exact (h.val i (fs[i]'(by omega)) d (List.getElem?_eq_getElem (by omega)) (by rw [List.getElem?_eq_getElem hi, e])).flat
theorem sto_flat {sch : List Knd} {sto : List Shf} (w : Sto sch sto) : flat 5 (stoD sto) = true := by
  have hsh : ∀ sh ∈ sto, flat 4 (shD sh) = true := fun sh hm => by
    obtain ⟨i, hi, e⟩ := List.getElem_of_mem hm
    have hl := w.ss.len
    have ho := w.sh i (sch[i]'(by omega)) sh (List.getElem?_eq_getElem (by omega)) (by rw [List.getElem?_eq_getElem hi, e])
    have hr : flats 2 (sh.rows.map rwD) = true := flats_of fun d m => by
      obtain ⟨r, hr, rfl⟩ := List.mem_map.mp m
      have := (ho.rows r hr).flat
      simp [rwD, flat, flats, this]
    simp [shD, flat, flats, hr]
  have : flats 4 (sto.map shD) = true := flats_of fun d m => by
    obtain ⟨sh, hs, rfl⟩ := List.mem_map.mp m
    exact hsh sh hs
  simp [stoD, flat, this]
theorem keys_ok {sch : List Knd} {sto : List Shf} (w : SS sch sto) {j : Nat} {kd : Knd} {sh : Shf} (h1 : sch[j]? = some kd) (h2 : sto[j]? = some sh) : φ_keys_of [schD sch, stoD sto, .str kd.1] = .ok (.lst ((sh.rows.map (·.key)).map D.int)) := by
  have hs := shelf_ok w h1 h2
  have h := lcA_over (f := rwD) (t := lcT (tgd (.nm 3)).f (den .no).t (den E_keys_of_0).v [some (schD sch), some (stoD sto), some (.str kd.1), none]) (g := fun r : Rw => some (.int r.key)) (xs := sh.rows) fun k _ => by
    simp [lcT, ftName, E_keys_of_0, eVar, rwD]
  have e : sh.rows.filterMap (fun r : Rw => some (D.int r.key)) = (sh.rows.map (·.key)).map D.int := by
    rw [List.map_map]
    have : (fun r : Rw => some (D.int r.key)) = some ∘ (D.int ∘ fun x : Rw => x.key) := rfl
    rw [this, List.filterMap_eq_map]
  rw [e] at h
  simp only [shD] at hs
  unfold φ_keys_of runS ir_keys_of
  simp [eVar, hs, wipeE, h, -List.map_map]
theorem in_ints (xs : List Int) (k : Int) : dIn (.int k) (.lst (xs.map D.int)) = .ok (xs.any fun x => x == k) := by
  show dInL _ _ = _
  unfold dInL
  have e : (D.int k).pl = true := rfl
  have d0 : (D.int k).dep = 0 := rfl
  rw [e, pls_ints, d0, if_pos (by simp), List.any_map]
  rfl
/-- the keys of a kind -/
def keysAt : List Knd → List Shf → Str → List Int
  | kd :: sch, sh :: sto, g => if kd.1 = g then sh.rows.map (·.key) else keysAt sch sto g
  | _, _, _ => []
theorem keysAt_eq : ∀ {sch : List Knd} {sto : List Shf} {j : Nat} {kd : Knd} {sh : Shf}, (sch.map (·.1)).Nodup → sch[j]? = some kd → sto[j]? = some sh → keysAt sch sto kd.1 = sh.rows.map (·.key)
  | [], _, _, _, _, _, h1, _ => by simp at h1
  | _ :: _, [], _, _, _, _, _, h2 => by simp at h2
  | k :: sch, s :: sto, 0, kd, sh, _, h1, h2 => by
    simp at h1 h2
    subst h1 h2
    simp [keysAt]
  | k :: sch, s :: sto, j + 1, kd, sh, nd, h1, h2 => by
    obtain ⟨n1, n2⟩ := List.nodup_cons.mp nd
    have h1' : sch[j]? = some kd := by simpa using h1
    have hne : k.1 ≠ kd.1 := fun e => n1 (by show k.1 ∈ _; rw [e]; exact List.mem_map.mpr ⟨kd, List.mem_of_getElem? h1', rfl⟩)
    rw [keysAt, if_neg hne]
    exact keysAt_eq n2 h1' (by simpa using h2)
theorem keysOf_ok {sch : List Knd} {sto : List Shf} (w : SS sch sto) {g : Str} (hg : g ∈ sch.map (·.1)) : φ_keys_of [schD sch, stoD sto, .str g] = .ok (.lst ((keysAt sch sto g).map D.int)) := by
  obtain ⟨kd, hm, rfl⟩ := List.mem_map.mp hg
  obtain ⟨j, hj, e⟩ := List.getElem_of_mem hm
  have h1 : sch[j]? = some kd := by rw [List.getElem?_eq_getElem hj, e]
  have h2 : sto[j]? = some (sto[j]'(by rw [w.len]; exact hj)) := List.getElem?_eq_getElem _
  rw [keys_ok w h1 h2, keysAt_eq w.nd h1 h2]
def lead1 (sch : List Knd) (sto : List Shf) : Srt → D → Bool
  | .lnk _ m _, .non => m
  | .lnk g _ _, .int k => (keysAt sch sto g).any fun x => x == k
  | _, _ => true
def leadsB (sch : List Knd) (sto : List Shf) (kd : Knd) (vals : List D) : Bool := kd.2.zipIdx.all fun p => lead1 sch sto p.1.2 (valAt vals p.2)
theorem at_val {fs : List Fld} {vals : List D} (h : vals.length = fs.length) {f : Fld} {i : Nat} (e : fs[i]? = some f) : vals[i]? = some (valAt vals i) := by
  have hi : i < vals.length := by rw [h]; exact (List.getElem?_eq_some_iff.mp e).1
  unfold valAt
  rw [List.getElem?_eq_getElem hi, List.getD_eq_getElem?_getD, List.getElem?_eq_getElem hi]
  rfl
theorem all_lead_ok {sch : List Knd} {sto : List Shf} (w : WS sch sto) {j : Nat} {kd : Knd} (h1 : sch[j]? = some kd) {r : Rw} (hr : RowS kd.2 r) : φ_all_lead [schD sch, stoD sto, .str kd.1, .tup r.vals] = .ok (.bl (leadsB sch sto kd r.vals)) := by
  have hl := links_fields_ok w.st.ss.nd h1
  have hkm : kd ∈ sch := List.mem_of_getElem? h1
  have key : ∀ p ∈ kd.2.zipIdx.filter (fun p => p.1.2.isLnk), ∃ g m ru, p.1.2 = .lnk g m ru ∧ g ∈ sch.map (·.1) ∧ dSub2 (.tup r.vals) (.int (p.2 : Nat)) = .ok (valAt r.vals p.2) ∧ ((valAt r.vals p.2 = .non) ∨ ∃ k, valAt r.vals p.2 = .int k) := by
    intro p hp
    obtain ⟨hp, hi⟩ := List.mem_filter.mp hp
    obtain ⟨f, i⟩ := p
    have hfi : kd.2[i]? = some f := by
      obtain ⟨pre, post, e⟩ := List.append_of_mem hp
      exact zipIdx_mem e
    have hv := at_val hr.len hfi
    have hs := hr.val i f _ hfi hv
    cases q : f.2 with
    | num => dsimp only at hi; rw [q] at hi; cases hi
    | txt => dsimp only at hi; rw [q] at hi; cases hi
    | lnk g m ru =>
      rw [q] at hs
      refine ⟨g, m, ru, rfl, w.goal kd hkm f (List.mem_of_getElem? hfi) g (by rw [q]; rfl), sub_t hv, ?_⟩
      rcases hs with ⟨e, _⟩ | ⟨k, _, e⟩
      · exact .inl e
      · exact .inr ⟨k, e⟩
  have h := forD_findM (f := fun p : Fld × Nat => D.tup [.int (p.2 : Nat), p.1.2.d]) (ft := (tgd (.tp (.cons (.nm 4) (.cons (.nm 5) .nil)))).f) (body := dS L_all_lead_0) (J := fun s => ∃ x4 x5, s = [some (schD sch), some (stoD sto), some (.str kd.1), some (.tup r.vals), x4, x5])
    (P := fun p : Fld × Nat => !lead1 sch sto p.1.2 (valAt r.vals p.2)) (d := .bl false) (kd.2.zipIdx.filter fun p => p.1.2.isLnk) [some (schD sch), some (stoD sto), some (.str kd.1), some (.tup r.vals), none, none] ⟨none, none, rfl⟩
    (fun p hp s ⟨x4, x5, e⟩ hP => by
      subst e
      obtain ⟨g, m, ru, e1, e2, e3, e4⟩ := key p hp
      rw [e1] at hP ⊢
      rcases e4 with e4 | ⟨k, e4⟩
      · rw [e4] at e3 hP
        have hm : m = false := by simpa [lead1] using hP
        subst hm
        simp [turnD, ftName, L_all_lead_0, eVar, Srt.d, e3]
      · rw [e4] at e3 hP
        have hk := keysOf_ok w.st.ss e2
        have hin := in_ints (keysAt sch sto g) k
        have ha : ((keysAt sch sto g).any fun x => x == k) = false := by
          have : (!((keysAt sch sto g).any fun x => x == k)) = true := hP
          simpa using this
        rw [ha] at hin
        simp [turnD, ftName, L_all_lead_0, eVar, Srt.d, e3, hk, hin])
    (fun p hp s ⟨x4, x5, e⟩ hP => by
      subst e
      obtain ⟨g, m, ru, e1, e2, e3, e4⟩ := key p hp
      rw [e1] at hP ⊢
      rcases e4 with e4 | ⟨k, e4⟩
      · rw [e4] at e3 hP
        have hm : m = true := by simpa [lead1] using hP
        subst hm
        exact ⟨[some (schD sch), some (stoD sto), some (.str kd.1), some (.tup r.vals), some (.int (p.2 : Nat)), some (Srt.lnk g true ru).d], by simp [turnD, ftName, L_all_lead_0, eVar, Srt.d, e3], _, _, rfl⟩
      · rw [e4] at e3 hP
        have hk := keysOf_ok w.st.ss e2
        have hin := in_ints (keysAt sch sto g) k
        have ha : ((keysAt sch sto g).any fun x => x == k) = true := by
          have : (!((keysAt sch sto g).any fun x => x == k)) = false := hP
          simpa using this
        rw [ha] at hin
        exact ⟨[some (schD sch), some (stoD sto), some (.str kd.1), some (.tup r.vals), some (.int (p.2 : Nat)), some (Srt.lnk g m ru).d], by simp [turnD, ftName, L_all_lead_0, eVar, Srt.d, e3, hk, hin], _, _, rfl⟩)
  have hall : leadsB sch sto kd r.vals = !((kd.2.zipIdx.filter fun p => p.1.2.isLnk).any fun p => !lead1 sch sto p.1.2 (valAt r.vals p.2)) := by
    unfold leadsB
    generalize kd.2.zipIdx = l
    induction l with
    | nil => rfl
    | cons p l ih =>
      rw [List.all_cons, ih, List.filter_cons]
      cases q : p.1.2 with
      | num => simp [Srt.isLnk, lead1]
      | txt => simp [Srt.isLnk, lead1]
      | lnk g m ru => simp [Srt.isLnk, q]
  unfold φ_all_lead runS ir_all_lead
  rcases h with ⟨e1, e2⟩ | ⟨e1, s', e2, x4, x5, rfl⟩
  · rw [hall, e1]
    simp [eVar, hl, e2]
  · rw [hall, e1]
    simp [eVar, hl, e2]
end Pu

end
section
open Hr Wk PySem
namespace Pu
end Pu

end
section
open Hr Wk PySem
namespace Pu
/-! ### slices -/
/-! ### plain data of some depth -/
/-! ### stores -/
end Pu

end
section
open Hr Wk PySem
namespace Pu
mutual
/-- plain through and through -/
def okA : D → Bool
  | .arr _ => false
  | .kt _ => false
  | .exc _ => false
  | .dic _ _ _ => false
  | .tup ds => okAs ds
  | .lst ds => okAs ds
  | _ => true
def okAs : List D → Bool
  | [] => true
  | d :: ds => okA d && okAs ds
end
theorem okAs_mem : ∀ {ds : List D}, okAs ds = true → ∀ d ∈ ds, okA d = true
  | [], _, d, m => by cases m
  | x :: ds, h, d, m => by
    obtain ⟨h1, h2⟩ := Bool.and_eq_true_iff.mp (show (okA x && okAs ds) = true from h)
    rcases List.mem_cons.mp m with rfl | m
    · exact h1
    · exact okAs_mem h2 d m
theorem okAs_of : ∀ {ds : List D}, (∀ d ∈ ds, okA d = true) → okAs ds = true
  | [], _ => rfl
  | d :: ds, h => by
    show (okA d && okAs ds) = true
    rw [h d (List.mem_cons_self ..), okAs_of fun x m => h x (List.mem_cons_of_mem _ m)]
    rfl
def wholeB : D → Bool
  | .int _ => true
  | _ => false
theorem whole_a {d : D} (h : okA d = true) : φ_is_whole [d] = .ok (.bl (wholeB d)) := by
  unfold φ_is_whole runS ir_is_whole
  cases d with
  | arr _ => cases h
  | kt _ => cases h
  | exc _ => cases h
  | dic _ _ _ => cases h
  | _ => simp [eVar, isTy, wholeB]
def chB (c : Nat) : Bool := decide (32 ≤ c) && decide (c ≤ 126)
def textB (x : Str) : Bool := decide (x.length ≤ 8) && x.cps.toList.all chB
theorem one_lt (a b : Nat) : [a] < [b] ↔ a < b := by
  constructor
  · intro h
    have h : List.Lex (· < ·) [a] [b] := h
    cases h with
    | rel h => exact h
    | cons h => cases h
  · intro h
    exact List.Lex.rel h
theorem le_lo (c : Nat) : dLe (.str " ") (.str ⟨#[c]⟩) = .ok (decide (32 ≤ c)) := by
  show R.ok (!decide ([c] < [32])) = _
  congr 1
  by_cases h : 32 ≤ c
  · have : ¬ [c] < [32] := by rw [one_lt]; omega
    rw [decide_eq_false this, decide_eq_true h]; rfl
  · have : [c] < [32] := by rw [one_lt]; omega
    rw [decide_eq_true this, decide_eq_false h]; rfl
theorem le_hi (c : Nat) : dLe (.str ⟨#[c]⟩) (.str "~") = .ok (decide (c ≤ 126)) := by
  show R.ok (!decide ([126] < [c])) = _
  congr 1
  by_cases h : c ≤ 126
  · have : ¬ [126] < [c] := by rw [one_lt]; omega
    rw [decide_eq_false this, decide_eq_true h]; rfl
  · have : [126] < [c] := by rw [one_lt]; omega
    rw [decide_eq_true this, decide_eq_false h]; rfl
@[simp] theorem isStr_str (a : Str) : isStr (.str a) = .ok a := rfl
theorem text_a {d : D} (h : okA d = true) : φ_is_text [d] = .ok (.bl (match d with | .str x => textB x | _ => false)) := by
  unfold φ_is_text runS ir_is_text
  cases d with
  | arr _ => cases h
  | kt _ => cases h
  | exc _ => cases h
  | dic _ _ _ => cases h
  | str x =>
    have hc := lcA_over (f := fun c : Nat => D.str ⟨#[c]⟩) (t := lcT (tgd (.nm 1)).f (den .no).t (den E_is_text_0).v [some (.str x), none]) (g := fun c : Nat => some (D.bl (chB c))) (xs := x.cps.toList) fun c _ => by
      have e1 := le_lo c
      have e2 := le_hi c
      by_cases q : 32 ≤ c
      · by_cases q2 : c ≤ 126 <;> simp [lcT, ftName, E_is_text_0, eVar, e1, e2, q, q2, chB]
      · simp [lcT, ftName, E_is_text_0, eVar, e1, q, chB]
    rw [fm_some] at hc
    have ha := all_map chB x.cps.toList
    have hl : biF .len [.str x] = .ok (.int x.length) := rfl
    by_cases q : x.length ≤ 8
    · have q1 : decide ((x.length : Int) ≤ 8) = true := decide_eq_true (by omega)
      simp [eVar, isTy, hl, q1, wipeE, chrs, hc, ha, textB, q]
    · have q1 : decide ((x.length : Int) ≤ 8) = false := decide_eq_false (by omega)
      simp [eVar, isTy, hl, q1, textB, q]
  | _ => simp [eVar, isTy]
def valB : Srt → D → Bool
  | .num, .int i => decide (-9999 ≤ i ∧ i ≤ 9999)
  | .txt, .str x => textB x
  | .lnk _ _ _, .non => true
  | .lnk _ _ _, .int k => decide (1 ≤ k)
  | _, _ => false
@[simp] theorem num_num : (("number" : Str) == ("number" : Str)) = true := by decide +kernel
@[simp] theorem txt_num : (("text" : Str) == ("number" : Str)) = false := by decide +kernel
theorem value_a (s : Srt) {d : D} (h : okA d = true) : φ_is_store_value [s.d, d] = .ok (.bl (valB s d)) := by
  have hp := plain_is s
  have hw := whole_a h
  have ht := text_a h
  have hpv : s.isLnk = false → φ_is_plain_value [s.d, d] = .ok (.bl (valB s d)) := by
    intro hl
    unfold φ_is_plain_value runS ir_is_plain_value
    cases s with
    | num =>
      cases d with
      | int i =>
        have hw : φ_is_whole [.int i] = .ok (.bl true) := hw
        by_cases q : -9999 ≤ i
        · have q1 : decide ((-9999 : Int) ≤ i) = true := decide_eq_true q
          simp [eVar, Srt.d, hw, q1, valB, q]
        · have q1 : decide ((-9999 : Int) ≤ i) = false := decide_eq_false q
          simp [eVar, Srt.d, hw, q1, valB, q]
      | _ => simp only [wholeB] at hw; simp [eVar, Srt.d, hw, valB]
    | txt =>
      cases d <;> simp [eVar, Srt.d, ht, valB]
    | lnk _ _ _ => cases hl
  unfold φ_is_store_value runS ir_is_store_value
  cases s with
  | num => have hp' : φ_is_plain [Srt.num.d] = .ok (.bl true) := hp; simp [eVar, hp', hpv rfl]
  | txt => have hp' : φ_is_plain [Srt.txt.d] = .ok (.bl true) := hp; simp [eVar, hp', hpv rfl]
  | lnk g m r =>
    have hp' : φ_is_plain [(Srt.lnk g m r).d] = .ok (.bl false) := hp
    cases d with
    | arr _ => cases h
    | kt _ => cases h
    | exc _ => cases h
    | dic _ _ _ => cases h
    | non => simp [eVar, hp', valB]
    | int k => have hw : φ_is_whole [.int k] = .ok (.bl true) := hw; simp [eVar, hp', hw, valB]
    | _ => simp only [wholeB] at hw; simp [eVar, hp', hw, valB, D.isN]
def valsB (fs : List Fld) : D → Bool
  | .tup vs => decide (vs.length = fs.length) && fs.zipIdx.all fun p => valB p.1.2 (valAt vs p.2)
  | _ => false
theorem values_a {sch : List Knd} (nd : (sch.map (·.1)).Nodup) {j : Nat} {kd : Knd} (h1 : sch[j]? = some kd) {d : D} (h : okA d = true) : φ_are_values [schD sch, .str kd.1, d] = .ok (.bl (valsB kd.2 d)) := by
  have hf := fields_ok nd h1
  have hlf : biF .len [.tup (kd.2.map fldD)] = .ok (.int (kd.2.length : Int)) := by show R.ok (D.int ((kd.2.map fldD).length : Int)) = _; rw [List.length_map]
  unfold φ_are_values runS ir_are_values
  cases d with
  | arr _ => cases h
  | kt _ => cases h
  | exc _ => cases h
  | dic _ _ _ => cases h
  | tup vs =>
    have mv := okAs_mem (show okAs vs = true from h)
    by_cases q : vs.length = kd.2.length
    · have q1 : ((vs.length : Int) == (kd.2.length : Int)) = true := by simp [q]
      have hz := zipL_idx (fs := kd.2) q
      have hc := lcA_over (f := fun p : Fld × Nat => D.tup [fldD p.1, valAt vs p.2]) (t := lcT (tgd (.tp (.cons (.nm 4) (.cons (.nm 5) .nil)))).f (den .no).t (den E_are_values_0).v [some (schD sch), some (.str kd.1), some (.tup vs), some (.tup (kd.2.map fldD)), none, none])
        (g := fun p : Fld × Nat => some (D.bl (valB p.1.2 (valAt vs p.2)))) (xs := kd.2.zipIdx) fun p hp => by
          obtain ⟨f, i⟩ := p
          obtain ⟨pre, post, e⟩ := List.append_of_mem hp
          have hv := at_val q (zipIdx_mem e)
          have := value_a f.2 (mv _ (List.mem_of_getElem? hv))
          simp [lcT, ftName, E_are_values_0, eVar, fldD, this]
      rw [fm_some] at hc
      have ha := all_map (fun p : Fld × Nat => valB p.1.2 (valAt vs p.2)) kd.2.zipIdx
      simp [eVar, ftName, isTy, hf, hlf, q1, hz, wipeE, hc, ha, valsB, q]
    · have q1 : ((vs.length : Int) == (kd.2.length : Int)) = false := by simp; omega
      simp [eVar, ftName, isTy, hf, hlf, q1, valsB, q]
  | _ => simp [eVar, ftName, isTy, hf, valsB]
def rowB (kd : Knd) (n : Int) : D → Bool
  | .tup [.int k, .int v, t] => decide (1 ≤ k ∧ k < n) && (decide (1 ≤ v) && valsB kd.2 t)
  | _ => false
theorem rowB_wh {kd : Knd} {n : Int} {a b c : D} (h : (wholeB a && wholeB b) = false) : rowB kd n (.tup [a, b, c]) = false := by
  unfold rowB
  split
  · rename_i e; cases e; cases h
  · rfl
theorem row_a {sch : List Knd} (nd : (sch.map (·.1)).Nodup) {j : Nat} {kd : Knd} (h1 : sch[j]? = some kd) (n : Int) {d : D} (h : okA d = true) : φ_is_row [schD sch, .str kd.1, .int n, d] = .ok (.bl (rowB kd n d)) := by
  unfold φ_is_row runS ir_is_row
  cases d with
  | arr _ => cases h
  | kt _ => cases h
  | exc _ => cases h
  | dic _ _ _ => cases h
  | tup ds =>
    by_cases hl : ds.length = 3
    · match ds, hl, h with
      | [a, b, c], _, h =>
        have m := okAs_mem (show okAs [a, b, c] = true from h)
        have wa := whole_a (m a (by simp))
        have wb := whole_a (m b (by simp))
        have vc := values_a nd h1 (m c (by simp))
        cases qa : wholeB a with
        | false =>
          rw [qa] at wa
          simp [eVar, isTy, wa, rowB_wh (show (wholeB a && wholeB b) = false by rw [qa]; rfl)]
        | true =>
          cases qb : wholeB b with
          | false =>
            rw [qa] at wa
            rw [qb] at wb
            simp [eVar, isTy, wa, wb, rowB_wh (show (wholeB a && wholeB b) = false by rw [qb, Bool.and_false])]
          | true =>
            rw [qa] at wa
            rw [qb] at wb
            cases a with
            | int k =>
              cases b with
              | int v =>
                by_cases q1 : 1 ≤ k
                · by_cases q2 : k < n
                  · by_cases q3 : 1 ≤ v
                    · simp [eVar, isTy, wa, wb, vc, rowB, q1, q2, q3]
                    · simp [eVar, isTy, wa, wb, vc, rowB, q1, q2, q3]
                  · simp [eVar, isTy, wa, wb, vc, rowB, q1, q2]
                · simp [eVar, isTy, wa, wb, vc, rowB, q1]
              | _ => cases qb
            | _ => cases qa
    · have e : ((ds.length : Int) == 3) = false := by simp; omega
      have hr : rowB kd n (.tup ds) = false := by
        unfold rowB
        split
        · rename_i q; cases q; simp at hl
        · rfl
      simp [eVar, isTy, e, hr]
  | _ => simp [eVar, isTy, rowB]
end Pu

end
section
open Hr Wk PySem
namespace Pu
def keyD : D → Int
  | .tup (.int k :: _) => k
  | _ => 0
def shelfB (kd : Knd) : D → Bool
  | .tup [.int n, .tup rs] => decide (1 ≤ n) && (rs.all (rowB kd n) && decide (rs.map keyD = srtI (rs.map keyD)))
  | _ => false
def fewB : D → Bool
  | .tup [_, .tup rs] => decide (rs.length < 64)
  | _ => true
theorem eqv_ints : ∀ a b : List Int, PyData.eqvAll (D.pys (a.map D.int)) (D.pys (b.map D.int)) = decide (a = b)
  | [], [] => rfl
  | [], _ :: _ => rfl
  | _ :: _, [] => rfl
  | x :: a, y :: b => by
    show ((x == y) && PyData.eqvAll (D.pys (a.map D.int)) (D.pys (b.map D.int))) = _
    rw [eqv_ints a b]
    by_cases h : x = y <;> by_cases h2 : a = b <;> simp [h, h2]
theorem dep_ints : ∀ a : List Int, PyData.depthAll (D.pys (a.map D.int)) = 0
  | [] => rfl
  | x :: a => by show max 0 (PyData.depthAll (D.pys (a.map D.int))) = 0; rw [dep_ints a]; rfl
theorem eq_ints (a b : List Int) : dEq (.lst (a.map D.int)) (.lst (b.map D.int)) = .ok (decide (a = b)) := by
  unfold dEq
  have h1 : (D.lst (a.map D.int)).pl = true := pls_ints a
  have h2 : (D.lst (b.map D.int)).pl = true := pls_ints b
  have h3 : (D.lst (a.map D.int)).dep = 1 := by show PyData.depthAll (D.pys (a.map D.int)) + 1 = 1; rw [dep_ints]
  rw [h1, h2, h3, if_pos (by simp; omega)]
  show R.ok (PyData.eqvAll _ _) = _
  rw [eqv_ints]
theorem intsD_map' : ∀ xs : List Int, intsD (xs.map D.int) = some xs := intsD_map
theorem rowB_key {kd : Knd} {n : Int} {d : D} (h : rowB kd n d = true) : ∃ k v t, d = .tup [.int k, .int v, t] ∧ 1 ≤ k ∧ k < n ∧ 1 ≤ v ∧ valsB kd.2 t = true := by
  unfold rowB at h
  split at h
  · rename_i k v t
    obtain ⟨h1, h2⟩ := Bool.and_eq_true_iff.mp h
    obtain ⟨h2, h3⟩ := Bool.and_eq_true_iff.mp h2
    have := of_decide_eq_true h1
    exact ⟨k, v, t, rfl, this.1, this.2, of_decide_eq_true h2, h3⟩
  · cases h
theorem shelf_a {sch : List Knd} (nd : (sch.map (·.1)).Nodup) {j : Nat} {kd : Knd} (h1 : sch[j]? = some kd) {d : D} (h : okA d = true) (hf : fewB d = true) : φ_is_shelf [schD sch, .str kd.1, d] = .ok (.bl (shelfB kd d)) := by
  unfold φ_is_shelf runS ir_is_shelf
  cases d with
  | arr _ => cases h
  | kt _ => cases h
  | exc _ => cases h
  | dic _ _ _ => cases h
  | tup ds =>
    by_cases hl : ds.length = 2
    · match ds, hl, h, hf with
      | [a, b], _, h, hf =>
        have m := okAs_mem (show okAs [a, b] = true from h)
        have wa := whole_a (m a (by simp))
        have hb := m b (by simp)
        cases qa : wholeB a with
        | false =>
          rw [qa] at wa
          have hs : shelfB kd (.tup [a, b]) = false := by
            unfold shelfB
            split
            · rename_i e; cases e; cases qa
            · rfl
          simp [eVar, isTy, wa, hs]
        | true =>
          rw [qa] at wa
          cases a with
          | int n =>
            by_cases q1 : n < 1
            · have hs : shelfB kd (.tup [.int n, b]) = false := by
                unfold shelfB
                split
                · rename_i e; cases e; rw [decide_eq_false (by omega)]; rfl
                · rfl
              simp [eVar, isTy, wa, q1, hs]
            · have q1b : decide (n < 1) = false := decide_eq_false q1
              cases b with
              | arr _ => cases hb
              | kt _ => cases hb
              | exc _ => cases hb
              | dic _ _ _ => cases hb
              | tup rs =>
                have mr := okAs_mem (show okAs rs = true from hb)
                have hrl : rs.length < 64 := of_decide_eq_true hf
                have hc := lcA_map (t := lcT (tgd (.nm 4)).f (den .no).t (den E_is_shelf_0).v [some (schD sch), some (.str kd.1), some (.tup [.int n, .tup rs]), none, none]) (g := fun r => D.bl (rowB kd n r)) (ds := rs) fun r hm => by
                  have := row_a nd h1 n (mr r hm)
                  simp [lcT, ftName, E_is_shelf_0, eVar, this]
                have ha := all_map (rowB kd n) rs
                cases q2 : rs.all (rowB kd n) with
                | false =>
                  rw [q2] at ha
                  simp [eVar, isTy, wa, q1b, wipeE, hc, ha, shelfB, q2]
                | true =>
                  rw [q2] at ha
                  have hk := lcA_map (t := lcT (tgd (.nm 4)).f (den .no).t (den E_is_shelf_1).v [some (schD sch), some (.str kd.1), some (.tup [.int n, .tup rs]), none, none]) (g := fun r => D.int (keyD r)) (ds := rs) fun r hm => by
                    obtain ⟨k, v, t, rfl, _⟩ := rowB_key (List.all_eq_true.mp q2 r hm)
                    simp [lcT, ftName, E_is_shelf_1, eVar, keyD]
                  have ek : rs.map (fun r => D.int (keyD r)) = (rs.map keyD).map D.int := by rw [List.map_map]; rfl
                  rw [ek] at hk
                  have hss : dSortSet (.lst ((rs.map keyD).map D.int)) = .ok (.lst ((srtI (rs.map keyD)).map D.int)) := by
                    unfold dSortSet
                    simp only
                    rw [intsD_map]
                    simp only
                    rw [if_pos (by rw [List.length_map]; exact hrl)]
                    rfl
                  have heq := eq_ints (rs.map keyD) (srtI (rs.map keyD))
                  have q1c : 1 ≤ n := by omega
                  generalize hK : rs.map keyD = ks at *
                  simp [eVar, ftName, isTy, wa, q1b, wipeE, hc, ha, hk, hss, heq, shelfB, q2, q1c, hK]
              | _ => simp [eVar, isTy, wa, q1b, shelfB]
          | _ => cases qa
    · have e : ((ds.length : Int) == 2) = false := by simp; omega
      have hs : shelfB kd (.tup ds) = false := by
        unfold shelfB
        split
        · rename_i q; cases q; simp at hl
        · rfl
      simp [eVar, isTy, e, hs]
  | _ => simp [eVar, isTy, shelfB]
/-! ### the store -/
theorem zipL_k (sch : List Knd) (ds : List D) : zipL (sch.map kndD) ds = (sch.zip ds).map fun p => .tup [kndD p.1, p.2] := by
  have := zipL_map kndD (id : D → D) sch ds
  rw [List.map_id] at this
  exact this
theorem store_no {sch : List Knd} {d : D} (h : okA d = true) (hd : ∀ ds, d = .tup ds → ds.length ≠ sch.length) : φ_is_store [schD sch, d] = .ok (.bl false) := by
  have hls : biF .len [schD sch] = .ok (.int (sch.length : Int)) := by show R.ok (D.int ((sch.map kndD).length : Int)) = _; rw [List.length_map]
  unfold φ_is_store runS ir_is_store
  cases d with
  | arr _ => cases h
  | kt _ => cases h
  | exc _ => cases h
  | dic _ _ _ => cases h
  | tup ds =>
    have q : ((ds.length : Int) == (sch.length : Int)) = false := by have := hd ds rfl; simp; omega
    simp [eVar, isTy, hls, q]
  | _ => simp [eVar, isTy]
theorem shelves_a {sch : List Knd} (nd : (sch.map (·.1)).Nodup) {ds : List D} (h : ∀ d ∈ ds, okA d = true ∧ fewB d = true) :
    lcA (lcT (tgd (.tp (.cons (.nm 2) (.cons (.nm 3) .nil)))).f (den .no).t (den E_is_store_0).v [some (schD sch), some (.tup ds), none, none, none]) ((sch.zip ds).map fun p => .tup [kndD p.1, p.2]) [] = .ok ((sch.zip ds).map fun p => D.bl (shelfB p.1 p.2)) := by
  have hc := lcA_over (f := fun p : Knd × D => D.tup [kndD p.1, p.2]) (t := lcT (tgd (.tp (.cons (.nm 2) (.cons (.nm 3) .nil)))).f (den .no).t (den E_is_store_0).v [some (schD sch), some (.tup ds), none, none, none]) (g := fun p : Knd × D => some (D.bl (shelfB p.1 p.2))) (xs := sch.zip ds) fun p hp => by
    obtain ⟨pre, post, e⟩ := List.append_of_mem hp
    obtain ⟨i1, i2⟩ := zip_at e
    obtain ⟨o1, o2⟩ := h p.2 (List.mem_of_getElem? i2)
    have := shelf_a nd i1 o1 o2
    simp [lcT, ftName, E_is_store_0, eVar, kndD, this]
  rw [fm_some] at hc
  exact hc
theorem store_bad {sch : List Knd} (nd : (sch.map (·.1)).Nodup) {ds : List D} (hl : ds.length = sch.length) (h : ∀ d ∈ ds, okA d = true ∧ fewB d = true) {p : Knd × D} (hp : p ∈ sch.zip ds) (hb : shelfB p.1 p.2 = false) : φ_is_store [schD sch, .tup ds] = .ok (.bl false) := by
  have hls : biF .len [schD sch] = .ok (.int (sch.length : Int)) := by show R.ok (D.int ((sch.map kndD).length : Int)) = _; rw [List.length_map]
  have q : ((ds.length : Int) == (sch.length : Int)) = true := by simp [hl]
  have hz : zipA [schD sch, .tup ds] = .ok ((sch.zip ds).map fun p => .tup [kndD p.1, p.2]) := by show R.ok (zipL (sch.map kndD) ds) = _; rw [zipL_k]
  have hc := shelves_a nd h
  have ha := all_map (fun p : Knd × D => shelfB p.1 p.2) (sch.zip ds)
  have hf : (sch.zip ds).all (fun p : Knd × D => shelfB p.1 p.2) = false := by
    rw [Bool.eq_false_iff]
    intro z
    have := List.all_eq_true.mp z p hp
    rw [hb] at this; cases this
  rw [hf] at ha
  unfold φ_is_store runS ir_is_store
  simp [eVar, isTy, hls, q, hz, wipeE, hc, ha]
theorem store_good {sch : List Knd} {sto : List Shf} (w : WS sch sto) (hs : ∀ p ∈ sch.zip sto, okA (shD p.2) = true ∧ fewB (shD p.2) = true ∧ shelfB p.1 (shD p.2) = true) : φ_is_store [schD sch, stoD sto] = .ok (.bl ((sch.zip sto).all fun p => p.2.rows.all fun r => leadsB sch sto p.1 r.vals)) := by
  have hls : biF .len [schD sch] = .ok (.int (sch.length : Int)) := by show R.ok (D.int ((sch.map kndD).length : Int)) = _; rw [List.length_map]
  have hl : (sto.map shD).length = sch.length := by rw [List.length_map]; exact w.st.ss.len
  have q : (((sto.map shD).length : Int) == (sch.length : Int)) = true := by simp [hl]
  have hlt : biF .len [stoD sto] = .ok (.int ((sto.map shD).length : Int)) := rfl
  have ezz : sch.zip (sto.map shD) = (sch.zip sto).map fun p => (p.1, shD p.2) := by
    rw [List.zip_map_right]; rfl
  have hmem : ∀ d ∈ sto.map shD, okA d = true ∧ fewB d = true := fun d hm => by
    obtain ⟨sh, hs2, rfl⟩ := List.mem_map.mp hm
    obtain ⟨i, hi, e⟩ := List.getElem_of_mem hs2
    have hk : i < sch.length := by rw [← w.st.ss.len]; exact hi
    have : (sch[i], sto[i]) ∈ sch.zip sto := List.mem_of_getElem? (i := i) (List.getElem?_zip_eq_some.mpr ⟨List.getElem?_eq_getElem hk, List.getElem?_eq_getElem hi⟩)
    obtain ⟨a, b, _⟩ := hs _ this
    rw [← e]
    exact ⟨a, b⟩
  have hc := shelves_a w.st.ss.nd hmem
  have ha := all_map (fun p : Knd × D => shelfB p.1 p.2) (sch.zip (sto.map shD))
  have hf : (sch.zip (sto.map shD)).all (fun p : Knd × D => shelfB p.1 p.2) = true := by
    rw [List.all_eq_true]
    intro p hp
    rw [ezz] at hp
    obtain ⟨q, hq, rfl⟩ := List.mem_map.mp hp
    exact (hs q hq).2.2
  rw [hf] at ha
  have hz : zipA [schD sch, stoD sto] = .ok ((sch.zip (sto.map shD)).map fun p => .tup [kndD p.1, p.2]) := by show R.ok (zipL (sch.map kndD) (sto.map shD)) = _; rw [zipL_k]
  have turn : ∀ p ∈ sch.zip sto, ∀ s, (∃ x2 x3 x4, s = [some (schD sch), some (stoD sto), x2, x3, x4]) →
      ((p.2.rows.all fun r => leadsB sch sto p.1 r.vals) = false → turnD (tgd (.tp (.cons (.nm 2) (.cons (.nm 3) .nil)))).f (dS L_is_store_0) (D.tup [kndD p.1, shD p.2]) s = .rt (.bl false)) ∧
      ((p.2.rows.all fun r => leadsB sch sto p.1 r.vals) = true → ∃ s', turnD (tgd (.tp (.cons (.nm 2) (.cons (.nm 3) .nil)))).f (dS L_is_store_0) (D.tup [kndD p.1, shD p.2]) s = .nx s' ∧ ∃ x2 x3 x4, s' = [some (schD sch), some (stoD sto), x2, x3, x4]) := by
    rintro ⟨kd, sh⟩ hp s ⟨x2, x3, x4, rfl⟩
    obtain ⟨i, i1, i2, i3, _, _⟩ := w.st.at_ hp
    dsimp only at i1 i2 i3 ⊢
    have hcc := lcA_over (f := rwD) (t := lcT (tgd (.nm 4)).f (den .no).t (den E_is_store_1).v [some (schD sch), some (stoD sto), some (.tup [.str kd.1, .tup (kd.2.map fldD)]), some (.tup [.int sh.num, .tup (sh.rows.map rwD)]), none]) (g := fun r : Rw => some (D.bl (leadsB sch sto kd r.vals))) (xs := sh.rows) fun r hr => by
      have := all_lead_ok w i1 (i3.rows r hr)
      simp [lcT, ftName, E_is_store_1, eVar, rwD, this]
    rw [fm_some] at hcc
    have haa := all_map (fun r : Rw => leadsB sch sto kd r.vals) sh.rows
    refine ⟨fun z => ?_, fun z => ⟨[some (schD sch), some (stoD sto), some (kndD kd), some (shD sh), x4], ?_, _, _, _, rfl⟩⟩
    · rw [z] at haa
      simp [turnD, ftName, L_is_store_0, eVar, kndD, shD, wipeE, hcc, haa]
    · rw [z] at haa
      simp [turnD, ftName, L_is_store_0, eVar, kndD, shD, wipeE, hcc, haa]
  have h := forD_findM (f := fun p : Knd × Shf => D.tup [kndD p.1, shD p.2]) (J := fun s => ∃ x2 x3 x4, s = [some (schD sch), some (stoD sto), x2, x3, x4]) (P := fun p : Knd × Shf => !(p.2.rows.all fun r => leadsB sch sto p.1 r.vals)) (d := .bl false) (sch.zip sto) [some (schD sch), some (stoD sto), none, none, none] ⟨none, none, none, rfl⟩
    (fun p hp s j hP => (turn p hp s j).1 (by simpa using hP)) (fun p hp s j hP => (turn p hp s j).2 (by simpa using hP))
  have ezm : (sch.zip (sto.map shD)).map (fun p => D.tup [kndD p.1, p.2]) = (sch.zip sto).map fun p => .tup [kndD p.1, shD p.2] := by
    rw [ezz, List.map_map]; rfl
  have hall : ((sch.zip sto).all fun p => p.2.rows.all fun r => leadsB sch sto p.1 r.vals) = !((sch.zip sto).any fun p => !(p.2.rows.all fun r => leadsB sch sto p.1 r.vals)) := by
    rw [List.all_eq_not_any_not]
  have hty : isTy "tuple" (stoD sto) = .ok true := rfl
  have hc : lcA (lcT (tgd (.tp (.cons (.nm 2) (.cons (.nm 3) .nil)))).f (den .no).t (den E_is_store_0).v [some (schD sch), some (stoD sto), none, none, none]) ((sch.zip (sto.map shD)).map fun p => .tup [kndD p.1, p.2]) [] = _ := hc
  rw [ezm] at hz hc
  generalize ((sch.zip (sto.map shD)).map fun p => D.bl (shelfB p.1 p.2)) = BL1 at *
  unfold φ_is_store runS ir_is_store
  rcases h with ⟨e1, e2⟩ | ⟨e1, s', e2, x2, x3, x4, rfl⟩
  · rw [hall, e1]
    simp [eVar, hty, hls, hlt, w.st.ss.len, hz, wipeE, hc, ha, e2]
  · rw [hall, e1]
    simp [eVar, hty, hls, hlt, w.st.ss.len, hz, wipeE, hc, ha, e2]
end Pu

end
section
open Hr Wk PySem
namespace Pu
theorem draw_ok (ns : List Int) (b most : Nat) (hm : most ≤ 900) : ∃ (sch : List Knd) (ks : Str → List Int) (sto : List Shf), φ__law_schema [A ns, .int 0] = .ok (schD sch) ∧ φ__law_store [A ns, .int b, schD sch, .int most] = .ok (stoD sto) ∧ WS sch sto ∧ 0 < sch.length ∧ (∀ sh ∈ sto, sh.rows.length ≤ most) ∧
    sch.map (·.1) ∈ six ∧ (∀ (j : Nat) (kd : Knd), sch[j]? = some kd → kndWf (sch.map (·.1)) j kd) ∧ (∀ kd ∈ sch, KeysOk (ks kd.1)) ∧ (∀ (i : Nat) (kd : Knd) (sh : Shf), sch[i]? = some kd → sto[i]? = some sh → ShOk ks kd sh) := by
  obtain ⟨sch, hs, h6, hw⟩ := schema_ok ns 0
  obtain ⟨n1, n2, n3⟩ := six_facts h6
  have hl : sch.length ≤ 3 := by simpa using n2
  have hpos : 0 < sch.length := by have := List.length_pos_iff.mpr n1; simpa using this
  obtain ⟨ks, sto, h1, h2, h3, h4⟩ := store_ok ns b most hm h6 hw
  have wf : ∀ kd ∈ sch, ∃ j, kndWf (sch.map (·.1)) j kd := fun kd hm => by
    obtain ⟨j, hj, e⟩ := List.getElem_of_mem hm
    exact ⟨j, hw j kd (by rw [List.getElem?_eq_getElem hj, e])⟩
  have rows : ∀ sh ∈ sto, sh.rows.length ≤ most := fun sh hm => by
    obtain ⟨i, hi, e⟩ := List.getElem_of_mem hm
    have hk : sch[i]? = some (sch[i]'(by omega)) := List.getElem?_eq_getElem (by omega)
    have ho := h4 i _ sh hk (by rw [List.getElem?_eq_getElem hi, e])
    have hb := (h3 _ (List.mem_of_getElem? hk)).2
    have := congrArg List.length ho.keys
    rw [List.length_map] at this
    omega
  refine ⟨sch, ks, sto, hs, h1, ⟨⟨⟨n3, h2⟩, (by omega), fun kd hm => (by obtain ⟨j, q⟩ := wf kd hm; have := q.2.1; omega), fun i kd sh e1 e2 => (h4 i kd sh e1 e2).s, fun sh hm => Nat.le_trans (rows sh hm) (by omega)⟩, fun kd hm f hf g e => ?_, fun kd hm => by obtain ⟨j, q⟩ := wf kd hm; exact q.1⟩, hpos, rows, h6, hw, fun kd hm => (h3 kd hm).1, h4⟩
  obtain ⟨j, q⟩ := wf kd hm
  obtain ⟨i, hi, ei⟩ := List.getElem_of_mem hf
  exact (q.2.2 i f (by rw [List.getElem?_eq_getElem hi, ei])).2.1 g e
/-! ### a drawn store is one -/
theorem val_true {ks : Str → List Int} {s : Srt} {d : D} (h : ValOk ks s d) (hk : ∀ g, s.goal = some g → ∀ k ∈ ks g, 1 ≤ k) : valB s d = true ∧ okA d = true := by
  cases s with
  | num => obtain ⟨v, rfl, b1, b2⟩ := h; exact ⟨decide_eq_true ⟨b1, b2⟩, rfl⟩
  | txt =>
    obtain ⟨x, rfl, hx⟩ := h
    refine ⟨?_, rfl⟩
    show textB x = true
    unfold textB
    rw [Bool.and_eq_true]
    refine ⟨decide_eq_true hx.1, ?_⟩
    rw [List.all_eq_true]
    intro c hc
    obtain ⟨c1, c2⟩ := hx.2 c hc
    unfold chB
    rw [decide_eq_true c1, decide_eq_true c2]; rfl
  | lnk g m r =>
    rcases h with ⟨rfl, _⟩ | ⟨k, hm, rfl⟩
    · exact ⟨rfl, rfl⟩
    · exact ⟨decide_eq_true (hk g rfl k hm), rfl⟩
/-- a drawn shelf -/
structure DS (ks : Str → List Int) (kd : Knd) (sh : Shf) : Prop where
  ok : ShOk ks kd sh
  kk : KeysOk (ks kd.1)
  few : sh.rows.length ≤ 4
  pos : 1 ≤ kd.2.length
  goal : ∀ f ∈ kd.2, ∀ g, f.2.goal = some g → ∀ k ∈ ks g, 1 ≤ k ∧ k ≤ 8
theorem DS.vals {ks : Str → List Int} {kd : Knd} {sh : Shf} (w : DS ks kd sh) {r : Rw} (hr : r ∈ sh.rows) : (∀ (i : Nat) (f : Fld) (d : D), kd.2[i]? = some f → r.vals[i]? = some d → valB f.2 d = true ∧ okA d = true) ∧ r.vals.length = kd.2.length :=
  ⟨fun i f d e1 e2 => val_true ((w.ok.rows r hr).val i f d e1 e2) fun g e k hk => (w.goal f (List.mem_of_getElem? e1) g e k hk).1, (w.ok.rows r hr).len⟩
theorem valsB_of {fs : List Fld} {vs : List D} (hl : vs.length = fs.length) (h : ∀ (i : Nat) (f : Fld) (d : D), fs[i]? = some f → vs[i]? = some d → valB f.2 d = true) : valsB fs (.tup vs) = true := by
  show (decide (vs.length = fs.length) && _) = true
  rw [decide_eq_true hl, Bool.true_and, List.all_eq_true]
  rintro ⟨f, i⟩ hp
  obtain ⟨pre, post, e⟩ := List.append_of_mem hp
  have hfi := zipIdx_mem e
  exact h i f _ hfi (at_val hl hfi)
theorem DS.row {ks : Str → List Int} {kd : Knd} {sh : Shf} (w : DS ks kd sh) {r : Rw} (hr : r ∈ sh.rows) : valsB kd.2 (.tup r.vals) = true ∧ okA (.tup r.vals) = true := by
  obtain ⟨h1, h2⟩ := w.vals hr
  refine ⟨valsB_of h2 fun i f d e1 e2 => (h1 i f d e1 e2).1, okAs_of fun d hd => ?_⟩
  obtain ⟨i, hi, e⟩ := List.getElem_of_mem hd
  exact (h1 i (kd.2[i]'(by omega)) d (List.getElem?_eq_getElem (by omega)) (by rw [List.getElem?_eq_getElem hi, e])).2
theorem DS.key {ks : Str → List Int} {kd : Knd} {sh : Shf} (w : DS ks kd sh) {r : Rw} (hr : r ∈ sh.rows) : 1 ≤ r.key ∧ r.key < sh.num ∧ r.key ≤ 8 := by
  have hm : r.key ∈ ks kd.1 := by rw [← w.ok.keys]; exact List.mem_map.mpr ⟨r, hr, rfl⟩
  have h1 := w.kk.bd r.key hm
  have h2 := w.ok.lt r.key hm
  have h3 := congrArg List.length w.ok.keys
  rw [List.length_map] at h3
  have h4 := w.few
  exact ⟨h1.1, h2, by omega⟩
theorem DS.rowB {ks : Str → List Int} {kd : Knd} {sh : Shf} (w : DS ks kd sh) {r : Rw} (hr : r ∈ sh.rows) : rowB kd sh.num (rwD r) = true := by
  obtain ⟨k1, k2, _⟩ := w.key hr
  have h3 := (w.ok.rows r hr).ver
  show (decide (1 ≤ r.key ∧ r.key < sh.num) && (decide (1 ≤ r.ver) && valsB kd.2 (.tup r.vals))) = true
  rw [decide_eq_true ⟨k1, k2⟩, decide_eq_true h3.1, (w.row hr).1]
  rfl
theorem keys_rows (rows : List Rw) : (rows.map rwD).map keyD = rows.map (·.key) := by rw [List.map_map]; rfl
theorem DS.okA {ks : Str → List Int} {kd : Knd} {sh : Shf} (w : DS ks kd sh) : ∀ d ∈ sh.rows.map rwD, okA d = true := fun d hd => by
  obtain ⟨r, hr, rfl⟩ := List.mem_map.mp hd
  have := (w.row hr).2
  show (true && (true && (Pu.okA (D.tup r.vals) && true))) = true
  rw [this]; rfl
theorem DS.shelf {ks : Str → List Int} {kd : Knd} {sh : Shf} (w : DS ks kd sh) : Pu.okA (shD sh) = true ∧ fewB (shD sh) = true ∧ shelfB kd (shD sh) = true := by
  refine ⟨?_, decide_eq_true (by rw [List.length_map]; have := w.few; omega), ?_⟩
  · show (true && (okAs (sh.rows.map rwD) && true)) = true
    rw [okAs_of w.okA]; rfl
  · show (decide (1 ≤ sh.num) && ((sh.rows.map rwD).all (Pu.rowB kd sh.num) && decide ((sh.rows.map rwD).map keyD = srtI ((sh.rows.map rwD).map keyD)))) = true
    have e1 : (sh.rows.map rwD).all (Pu.rowB kd sh.num) = true := by
      rw [List.all_eq_true]
      intro d hd
      obtain ⟨r, hr, rfl⟩ := List.mem_map.mp hd
      exact w.rowB hr
    rw [decide_eq_true w.ok.num.1, e1, keys_rows, w.ok.keys, decide_eq_true]
    · rfl
    · exact rise_eq w.kk.pw (srtI_pw _) fun z => (srtI_mem z _).symm
/-! ### bad shelves -/
def badL (n : Int) (RS : List D) (lk : Int) (e l : Bool) : List D :=
  [.tup [.int n], .tup [.int n, .tup RS, .int 0], .lst [.int n, .tup RS], .tup [.int 0, .tup []], .tup [.bl true, .tup []], .tup [.non, .tup RS], .tup [.int n, .lst RS], .non] ++
  ((if e then [] else [.tup [.int n, .tup (RS ++ RS.take 1)], .tup [.int lk, .tup RS]]) ++ (if l then [.tup [.int n, .tup RS.reverse]] else []))
def badShelves (sh : Shf) : List D := badL sh.num (sh.rows.map rwD) ((sh.rows.map (·.key)).getLastD 0) sh.rows.isEmpty (decide (1 < sh.rows.length))
theorem last_t {xs : List D} {x : D} (h : xs.getLast? = some x) : dSub2 (.tup xs) (.int (-1)) = .ok x := by
  show R.of (L2.atI xs (-1)) = _
  have hl : 0 < xs.length := by
    cases xs with
    | nil => cases h
    | cons _ _ => simp
  unfold L2.atI L2.ixN
  rw [if_neg (by decide), if_pos (by omega)]
  rw [List.getLast?_eq_getElem?] at h
  have e : ((-1 : Int) + (xs.length : Int)).toNat = xs.length - 1 := by omega
  show R.of (xs[((-1 : Int) + (xs.length : Int)).toNat]?) = _
  rw [e, h]; rfl
theorem shelfB_no {kd : Knd} {d : D} (h : ∀ n rs, d = .tup [.int n, .tup rs] → False) : shelfB kd d = false := by
  unfold shelfB
  split
  · exact (h _ _ rfl).elim
  · rfl
theorem shelfB_lt {kd : Knd} {n : Int} {rs : List D} (h : shelfB kd (.tup [.int n, .tup rs]) = true) : 1 ≤ n ∧ (∀ r ∈ rs, rowB kd n r = true) ∧ (rs.map keyD).Pairwise (· < ·) := by
  obtain ⟨h1, h2⟩ := Bool.and_eq_true_iff.mp (show (decide (1 ≤ n) && (rs.all (rowB kd n) && decide (rs.map keyD = srtI (rs.map keyD)))) = true from h)
  obtain ⟨h2, h3⟩ := Bool.and_eq_true_iff.mp h2
  refine ⟨of_decide_eq_true h1, List.all_eq_true.mp h2, ?_⟩
  rw [of_decide_eq_true h3]
  exact srtI_pw _
theorem bad_shelf_ok {ks : Str → List Int} {kd : Knd} {sh : Shf} (w : DS ks kd sh) : ∀ d ∈ badShelves sh, okA d = true ∧ fewB d = true ∧ shelfB kd d = false := by
  have hok : okAs (sh.rows.map rwD) = true := okAs_of w.okA
  have hfew : (sh.rows.map rwD).length ≤ 4 := by rw [List.length_map]; exact w.few
  have fw : ∀ (a : D) (rs : List D), rs.length ≤ 60 → fewB (.tup [a, .tup rs]) = true := fun a rs h => decide_eq_true (by omega)
  have o2 : ∀ (a : D) (rs : List D), okA a = true → okAs rs = true → okA (.tup [a, .tup rs]) = true := fun a rs h1 h2 => by
    show (okA a && (okAs rs && true)) = true
    rw [h1, h2]; rfl
  intro d hd
  unfold badShelves badL at hd
  rcases List.mem_append.mp hd with hd | hd
  · simp only [List.mem_cons, List.not_mem_nil, or_false] at hd
    rcases hd with rfl | rfl | rfl | rfl | rfl | rfl | rfl | rfl
    · exact ⟨rfl, rfl, rfl⟩
    · exact ⟨by show (true && (okAs _ && (true && true))) = true; rw [hok]; rfl, rfl, rfl⟩
    · exact ⟨by show (true && (okAs _ && true)) = true; rw [hok]; rfl, rfl, rfl⟩
    · exact ⟨rfl, rfl, rfl⟩
    · exact ⟨rfl, rfl, rfl⟩
    · exact ⟨o2 _ _ rfl hok, fw _ _ (by omega), rfl⟩
    · exact ⟨by show (true && (okAs _ && true)) = true; rw [hok]; rfl, rfl, rfl⟩
    · exact ⟨rfl, rfl, rfl⟩
  · rcases List.mem_append.mp hd with hd | hd
    · split at hd
      · cases hd
      · rename_i he
        obtain ⟨r0, rs, hr⟩ : ∃ r0 rs, sh.rows = r0 :: rs := by
          cases h : sh.rows with
          | nil => rw [h] at he; exact absurd rfl he
          | cons a l => exact ⟨a, l, rfl⟩
        simp only [List.mem_cons, List.not_mem_nil, or_false] at hd
        rcases hd with rfl | rfl
        · refine ⟨o2 _ _ rfl (okAs_of fun d hd => ?_), fw _ _ (by simp only [List.length_append, List.length_take]; omega), ?_⟩
          · rcases List.mem_append.mp hd with m | m
            · exact w.okA d m
            · exact w.okA d (List.mem_of_mem_take m)
          · rw [Bool.eq_false_iff]
            intro z
            have pw := (shelfB_lt z).2.2
            rw [hr] at pw
            simp only [List.map_cons, List.take_succ_cons, List.take_zero, List.map_append, List.map_nil, List.cons_append] at pw
            have := (List.pairwise_cons.mp pw).1 (keyD (rwD r0)) (by simp)
            omega
        · refine ⟨o2 _ _ rfl hok, fw _ _ (by omega), ?_⟩
          rw [Bool.eq_false_iff]
          intro z
          obtain ⟨rl, hrl⟩ : ∃ rl, sh.rows.getLast? = some rl := ⟨_, by rw [hr]; exact List.getLast?_cons ..⟩
          have hm := List.mem_of_getLast? hrl
          have e : (sh.rows.map (·.key)).getLastD 0 = rl.key := by rw [List.getLastD_eq_getLast?, List.getLast?_map, hrl]; rfl
          have := (shelfB_lt z).2.1 (rwD rl) (List.mem_map.mpr ⟨rl, hm, rfl⟩)
          obtain ⟨k, v, t, e2, _, hk, _⟩ := rowB_key this
          have e3 : k = rl.key := by
            have e2 : D.tup [.int rl.key, .int rl.ver, .tup rl.vals] = .tup [.int k, .int v, t] := e2
            injection e2 with e2
            injection e2 with e2 _
            injection e2 with e2
            exact e2.symm
          omega
    · split at hd
      · rename_i he
        have he : 1 < sh.rows.length := of_decide_eq_true he
        obtain ⟨r0, r1, rs, hr⟩ : ∃ r0 r1 rs, sh.rows = r0 :: r1 :: rs := by
          match h : sh.rows, he with
          | a :: b :: l, _ => exact ⟨a, b, l, rfl⟩
          | [a], he => simp at he
          | [], he => simp at he
        have e := List.mem_singleton.mp hd
        subst e
        refine ⟨o2 _ _ rfl (okAs_of fun d hd => w.okA d (List.mem_reverse.mp hd)), fw _ _ (by rw [List.length_reverse]; omega), ?_⟩
        rw [Bool.eq_false_iff]
        intro z
        have pw := (shelfB_lt z).2.2
        rw [List.map_reverse, List.pairwise_reverse, keys_rows] at pw
        have pk := w.kk.pw
        rw [← w.ok.keys] at pk
        rw [hr] at pw pk
        have p1 := (List.pairwise_cons.mp pw).1 r1.key (by simp)
        have p2 := (List.pairwise_cons.mp pk).1 r1.key (by simp)
        dsimp only at p1 p2
        omega
      · cases hd
end Pu

end
section
open Hr Wk PySem
namespace Pu
/-! ### WA: whole stores, typed -/
theorem kd_of {sch : List Knd} (nd : (sch.map (·.1)).Nodup) {j : Nat} {kd kd' : Knd} (h1 : sch[j]? = some kd) (m : kd' ∈ sch) (e : kd'.1 = kd.1) : kd' = kd := by
  obtain ⟨i, hi, e2⟩ := List.getElem_of_mem m
  have hj := (List.getElem?_eq_some_iff.mp h1).1
  have e3 : (sch.map (·.1))[i]'(by simpa using hi) = (sch.map (·.1))[j]'(by simpa using hj) := by
    rw [List.getElem_map, List.getElem_map, e2, e]
    rw [List.getElem?_eq_getElem hj] at h1
    cases h1; rfl
  have : i = j := (List.getElem_inj nd).mp e3
  subst this
  rw [List.getElem?_eq_getElem hi] at h1
  cases h1
  exact e2.symm
def VRow (ks : Str → List Int) (fs : List Fld) (vals : List D) : Prop := vals.length = fs.length ∧ ∀ p ∈ fs.zip vals, ValOk ks p.1.2 p.2
structure ShW (ks : Str → List Int) (kd : Knd) (sh : Shf) : Prop where
  num : 1 ≤ sh.num
  pw : (sh.rows.map (·.key)).Pairwise (· < ·)
  rng : ∀ r ∈ sh.rows, 1 ≤ r.key ∧ r.key < sh.num ∧ 1 ≤ r.ver
  val : ∀ r ∈ sh.rows, VRow ks kd.2 r.vals
structure Wh (sch : List Knd) (sto : List Shf) : Prop where
  nd : (sch.map (·.1)).Nodup
  len : sto.length = sch.length
  sh : ∀ p ∈ sch.zip sto, ShW (keysAt sch sto) p.1 p.2
structure ScF (sch : List Knd) : Prop where
  nd : (sch.map (·.1)).Nodup
  n1 : 1 ≤ sch.length
  n8 : sch.length ≤ 8
  f8 : ∀ kd ∈ sch, 1 ≤ kd.2.length ∧ kd.2.length ≤ 8
  gl : ∀ kd ∈ sch, ∀ f ∈ kd.2, ∀ g, f.2.goal = some g → g ∈ sch.map (·.1)
structure St (sch : List Knd) (sto : List Shf) : Prop where
  wh : Wh sch sto
  sc : ScF sch
  rw : ∀ sh ∈ sto, sh.rows.length ≤ 60
theorem VRow.at_ {ks : Str → List Int} {fs : List Fld} {vals : List D} (h : VRow ks fs vals) {i : Nat} {f : Fld} {d : D} (e1 : fs[i]? = some f) (e2 : vals[i]? = some d) : ValOk ks f.2 d := by
  refine h.2 (f, d) (List.mem_of_getElem? (i := i) ?_)
  rw [List.getElem?_zip_eq_some]
  exact ⟨e1, e2⟩
theorem VRow.of {ks : Str → List Int} {fs : List Fld} {vals : List D} (hl : vals.length = fs.length) (h : ∀ (i : Nat) (f : Fld) (d : D), fs[i]? = some f → vals[i]? = some d → ValOk ks f.2 d) : VRow ks fs vals := by
  refine ⟨hl, fun p hp => ?_⟩
  obtain ⟨i, hi, e⟩ := List.getElem_of_mem hp
  have : (fs.zip vals)[i]? = some p := by rw [List.getElem?_eq_getElem hi, e]
  rw [List.getElem?_zip_eq_some] at this
  exact h i _ _ this.1 this.2
theorem ValOk.mono {ks ks' : Str → List Int} {s : Srt} {d : D} (h : ValOk ks s d) (hk : ∀ g, s.goal = some g → ∀ k ∈ ks g, k ∈ ks' g) : ValOk ks' s d := by
  cases s with
  | num => exact h
  | txt => exact h
  | lnk g m r => exact h.imp id fun ⟨k, hm, e⟩ => ⟨k, hk g rfl k hm, e⟩
theorem ValOk.smp {ks : Str → List Int} {s : Srt} {d : D} (h : ValOk ks s d) : Smp d := by
  cases s with
  | num => obtain ⟨v, rfl, _⟩ := h; exact .int v
  | txt => obtain ⟨v, rfl, _⟩ := h; exact .str v
  | lnk g m r => rcases h with ⟨rfl, _⟩ | ⟨k, _, rfl⟩; exact .non; exact .int k
theorem VRow.mem {ks : Str → List Int} {fs : List Fld} {vals : List D} (h : VRow ks fs vals) {d : D} (hd : d ∈ vals) : ∃ f ∈ fs, ValOk ks f.2 d := by
  obtain ⟨i, hi, e⟩ := List.getElem_of_mem hd
  have hl := h.1
  have hf : fs[i]? = some (fs[i]'(by omega)) := List.getElem?_eq_getElem _
  exact ⟨_, List.mem_of_getElem? hf, h.at_ hf (by rw [List.getElem?_eq_getElem hi, e])⟩
theorem VRow.smp {ks : Str → List Int} {fs : List Fld} {vals : List D} (h : VRow ks fs vals) : ∀ d ∈ vals, Smp d := fun d hd => by
  obtain ⟨f, _, hv⟩ := h.mem hd
  exact hv.smp
theorem zip_mem_of {α β : Type} {l : List α} {m : List β} {i : Nat} {a : α} {b : β} (h1 : l[i]? = some a) (h2 : m[i]? = some b) : (a, b) ∈ l.zip m := by
  refine List.mem_of_getElem? (i := i) ?_
  rw [List.getElem?_zip_eq_some]
  exact ⟨h1, h2⟩
theorem zip_mem_at {α β : Type} {l : List α} {m : List β} {p : α × β} (h : p ∈ l.zip m) : ∃ i : Nat, l[i]? = some p.1 ∧ m[i]? = some p.2 := by
  obtain ⟨i, hi, e⟩ := List.getElem_of_mem h
  have : (l.zip m)[i]? = some p := by rw [List.getElem?_eq_getElem hi, e]
  rw [List.getElem?_zip_eq_some] at this
  exact ⟨i, this⟩
theorem zip_of_left {α β : Type} {l : List α} {m : List β} (h : m.length = l.length) {a : α} (ha : a ∈ l) : ∃ b, (a, b) ∈ l.zip m := by
  obtain ⟨i, hi, e⟩ := List.getElem_of_mem ha
  exact ⟨m[i]'(by omega), zip_mem_of (by rw [List.getElem?_eq_getElem hi, e]) (List.getElem?_eq_getElem _)⟩
theorem zip_of_right {α β : Type} {l : List α} {m : List β} (h : m.length = l.length) {b : β} (hb : b ∈ m) : ∃ a, (a, b) ∈ l.zip m := by
  obtain ⟨i, hi, e⟩ := List.getElem_of_mem hb
  exact ⟨l[i]'(by omega), zip_mem_of (List.getElem?_eq_getElem _) (by rw [List.getElem?_eq_getElem hi, e])⟩
theorem keysAt_mem {sch : List Knd} {sto : List Shf} (nd : (sch.map (·.1)).Nodup) {p : Knd × Shf} (h : p ∈ sch.zip sto) : keysAt sch sto p.1.1 = p.2.rows.map (·.key) := by
  obtain ⟨i, h1, h2⟩ := zip_mem_at h
  exact keysAt_eq nd h1 h2
theorem Wh.key1 {sch : List Knd} {sto : List Shf} (w : Wh sch sto) {g : Str} (hg : g ∈ sch.map (·.1)) {k : Int} (hk : k ∈ keysAt sch sto g) : 1 ≤ k := by
  obtain ⟨kd, hm, rfl⟩ := List.mem_map.mp hg
  obtain ⟨sh, hp⟩ := zip_of_left w.len hm
  rw [keysAt_mem w.nd hp] at hk
  obtain ⟨r, hr, rfl⟩ := List.mem_map.mp hk
  exact ((w.sh _ hp).rng r hr).1
theorem St.ws {sch : List Knd} {sto : List Shf} (w : St sch sto) : WS sch sto :=
  ⟨⟨⟨w.wh.nd, w.wh.len⟩, w.sc.n8, fun kd hm => (w.sc.f8 kd hm).2, fun i kd sh h1 h2 => ⟨fun r hr => by
    have q := (w.wh.sh _ (zip_mem_of h1 h2)).val r hr
    exact ⟨q.1, fun j f d e1 e2 => (q.at_ e1 e2).s⟩⟩, fun sh hm => Nat.le_trans (w.rw sh hm) (by decide)⟩, w.sc.gl, fun kd hm => (w.sc.f8 kd hm).1⟩
theorem rise_self {xs : List Int} (h : xs.Pairwise (· < ·)) : xs = srtI xs := rise_eq h (srtI_pw _) fun z => (srtI_mem z _).symm
theorem lead1_of {sch : List Knd} {sto : List Shf} {s : Srt} {d : D} (h : ValOk (keysAt sch sto) s d) : lead1 sch sto s d = true := by
  cases s with
  | num => cases d <;> rfl
  | txt => cases d <;> rfl
  | lnk g m r =>
    rcases h with ⟨rfl, em⟩ | ⟨k, hk, rfl⟩
    · exact em
    · exact List.any_eq_true.mpr ⟨k, hk, by simp⟩
theorem leads_of {sch : List Knd} {sto : List Shf} {kd : Knd} {vals : List D} (h : VRow (keysAt sch sto) kd.2 vals) : leadsB sch sto kd vals = true := by
  unfold leadsB
  rw [List.all_eq_true]
  rintro ⟨f, i⟩ hp
  obtain ⟨pre, post, e⟩ := List.append_of_mem hp
  have hfi := zipIdx_mem e
  exact lead1_of (h.at_ hfi (at_val h.1 hfi))
theorem St.is_store {sch : List Knd} {sto : List Shf} (w : St sch sto) : φ_is_store [schD sch, stoD sto] = .ok (.bl true) := by
  have vals : ∀ p ∈ sch.zip sto, ∀ r ∈ p.2.rows, valsB p.1.2 (.tup r.vals) = true ∧ okA (.tup r.vals) = true := fun p hp r hr => by
    have q := (w.wh.sh p hp).val r hr
    have hkd : p.1 ∈ sch := (List.of_mem_zip (show (p.1, p.2) ∈ _ from hp)).1
    refine ⟨valsB_of q.1 fun i f d e1 e2 => (val_true (q.at_ e1 e2) fun g e k hk => w.wh.key1 (w.sc.gl p.1 hkd f (List.mem_of_getElem? e1) g e) hk).1, okAs_of fun d hd => ?_⟩
    have := q.smp d hd
    cases this <;> rfl
  rw [store_good w.ws fun p hp => ?_]
  · congr 2
    rw [List.all_eq_true]
    intro p hp
    rw [List.all_eq_true]
    intro r hr
    exact leads_of ((w.wh.sh p hp).val r hr)
  · have q := w.wh.sh p hp
    have hsh : p.2 ∈ sto := (List.of_mem_zip (show (p.1, p.2) ∈ _ from hp)).2
    refine ⟨?_, decide_eq_true (by rw [List.length_map]; have := w.rw _ hsh; omega), ?_⟩
    · show (true && (okAs (p.2.rows.map rwD) && true)) = true
      rw [okAs_of fun d hd => ?_]; · rfl
      obtain ⟨r, hr, rfl⟩ := List.mem_map.mp hd
      show (true && (true && (okA (D.tup r.vals) && true))) = true
      rw [(vals p hp r hr).2]; rfl
    · show (decide (1 ≤ p.2.num) && ((p.2.rows.map rwD).all (rowB p.1 p.2.num) && decide ((p.2.rows.map rwD).map keyD = srtI ((p.2.rows.map rwD).map keyD)))) = true
      have e1 : (p.2.rows.map rwD).all (rowB p.1 p.2.num) = true := by
        rw [List.all_eq_true]
        intro d hd
        obtain ⟨r, hr, rfl⟩ := List.mem_map.mp hd
        obtain ⟨k1, k2, k3⟩ := q.rng r hr
        show (decide (1 ≤ r.key ∧ r.key < p.2.num) && (decide (1 ≤ r.ver) && valsB p.1.2 (.tup r.vals))) = true
        rw [decide_eq_true ⟨k1, k2⟩, decide_eq_true k3, (vals p hp r hr).1]
        rfl
      rw [decide_eq_true q.num, e1, keys_rows, decide_eq_true (rise_self q.pw)]
      rfl
/-- a drawn schema, a drawn store: whole -/
theorem draw_st (ns : List Int) (b most : Nat) (hm : most ≤ 60) : ∃ (sch : List Knd) (sto : List Shf), φ__law_schema [A ns, .int 0] = .ok (schD sch) ∧ φ__law_store [A ns, .int b, schD sch, .int most] = .ok (stoD sto) ∧ St sch sto ∧ sch.map (·.1) ∈ six ∧ (∀ (j : Nat) (kd : Knd), sch[j]? = some kd → kndWf (sch.map (·.1)) j kd) ∧ (∀ sh ∈ sto, sh.rows.length ≤ most) := by
  obtain ⟨sch, hs, h6, hw⟩ := schema_ok ns 0
  obtain ⟨n1, n2, n3⟩ := six_facts h6
  have hl : sch.length ≤ 3 := by simpa using n2
  have hpos : 0 < sch.length := by have := List.length_pos_iff.mpr n1; simpa using this
  obtain ⟨ks, sto, h1, h2, h3, h4⟩ := store_ok ns b most (by omega) h6 hw
  have wf : ∀ kd ∈ sch, ∃ j, kndWf (sch.map (·.1)) j kd := fun kd hm => by
    obtain ⟨j, hj, e⟩ := List.getElem_of_mem hm
    exact ⟨j, hw j kd (by rw [List.getElem?_eq_getElem hj, e])⟩
  have gl : ∀ kd ∈ sch, ∀ f ∈ kd.2, ∀ g, f.2.goal = some g → g ∈ sch.map (·.1) := fun kd hm f hf g e => by
    obtain ⟨j, q⟩ := wf kd hm
    obtain ⟨i, hi, ei⟩ := List.getElem_of_mem hf
    exact (q.2.2 i f (by rw [List.getElem?_eq_getElem hi, ei])).2.1 g e
  have at_ : ∀ p ∈ sch.zip sto, ShOk ks p.1 p.2 := fun p hp => by
    obtain ⟨i, e1, e2⟩ := zip_mem_at hp
    exact h4 i _ _ e1 e2
  have keq : ∀ g ∈ sch.map (·.1), keysAt sch sto g = ks g := fun g hg => by
    obtain ⟨kd, hm, rfl⟩ := List.mem_map.mp hg
    obtain ⟨sh, hp⟩ := zip_of_left h2 hm
    rw [keysAt_mem n3 hp]
    exact (at_ _ hp).keys
  have rows : ∀ sh ∈ sto, sh.rows.length ≤ most := fun sh hm => by
    obtain ⟨kd, hp⟩ := zip_of_right h2 hm
    have := congrArg List.length (at_ _ hp).keys
    rw [List.length_map] at this
    have := (h3 kd (List.of_mem_zip hp).1).2
    simp only at *
    omega
  refine ⟨sch, sto, hs, h1, ⟨⟨n3, h2, fun p hp => ?_⟩, ⟨n3, hpos, by omega, fun kd hm => ?_, gl⟩, fun sh hm => Nat.le_trans (rows sh hm) (by omega)⟩, h6, hw, rows⟩
  · have ho := at_ p hp
    have hkd : p.1 ∈ sch := (List.of_mem_zip (show (p.1, p.2) ∈ _ from hp)).1
    have hk := (h3 p.1 hkd).1
    have hm : ∀ r ∈ p.2.rows, r.key ∈ ks p.1.1 := fun r hr => by rw [← ho.keys]; exact List.mem_map.mpr ⟨r, hr, rfl⟩
    refine ⟨ho.num.1, by rw [ho.keys]; exact hk.pw, fun r hr => ⟨(hk.bd _ (hm r hr)).1, ho.lt _ (hm r hr), (ho.rows r hr).ver.1⟩, fun r hr => VRow.of (ho.rows r hr).len fun i f d e1 e2 => ?_⟩
    refine ((ho.rows r hr).val i f d e1 e2).mono fun g e k hk => ?_
    rw [keq g (gl p.1 hkd f (List.mem_of_getElem? e1) g e)]
    exact hk
  · obtain ⟨j, q⟩ := wf kd hm
    exact ⟨q.1, by have := q.2.1; omega⟩
end Pu

end
section
open Hr Wk PySem
namespace Pu
/-! ### WC: dicts of rows by kind and key; sorted pairs -/
abbrev Ent := Str × Rw
def entK (e : Ent) : List L2.Key := [.inr e.1, .inl e.2.key]
def entD (e : Ent) : D := .tup [.int e.2.ver, .tup e.2.vals]
def dicE (m : List Ent) : D := .dic true (m.map entK) (m.map entD)
def kk (e : Ent) : D := .tup [.str e.1, .int e.2.key]
theorem entK_inj {a b : Ent} : entK a = entK b ↔ a.1 = b.1 ∧ a.2.key = b.2.key := by
  unfold entK
  constructor
  · intro h
    injection h with h1 h2
    injection h2 with h3 _
    exact ⟨by injection h1, by injection h3⟩
  · rintro ⟨h1, h2⟩; rw [h1, h2]
theorem keyOf_two (a : Str) (k : Int) : keyOf true (.tup [.str a, .int k]) = some [.inr a, .inl k] := rfl
theorem put_ent_new {m : List Ent} {e : Ent} (h : entK e ∉ m.map entK) : putD (m.map entK) (m.map entD) (entK e) (entD e) = ((m ++ [e]).map entK, (m ++ [e]).map entD) := by
  unfold putD
  rw [if_neg]
  · simp
  · intro z
    obtain ⟨k, hk, q⟩ := List.any_eq_true.mp z
    exact h (of_decide_eq_true q ▸ hk)
theorem setAll_ent {e : Ent} : ∀ m : List Ent, setAll (entK e) (entD e) (m.map entK) (m.map entD) = (m.map fun x => if entK x = entK e then e else x).map entD
  | [] => rfl
  | x :: m => by
    show (if entK x = entK e then entD e else entD x) :: setAll _ _ _ _ = _
    rw [setAll_ent m, List.map_cons, List.map_cons]
    congr 1
    split <;> rfl
theorem map_entK {e : Ent} (m : List Ent) : (m.map fun x => if entK x = entK e then e else x).map entK = m.map entK := by
  rw [List.map_map]
  refine List.map_congr_left fun x _ => ?_
  show entK (if entK x = entK e then e else x) = entK x
  split
  · rename_i h; exact h.symm
  · rfl
theorem put_ent_old {m : List Ent} {e : Ent} (h : entK e ∈ m.map entK) : putD (m.map entK) (m.map entD) (entK e) (entD e) = ((m.map fun x => if entK x = entK e then e else x).map entK, (m.map fun x => if entK x = entK e then e else x).map entD) := by
  unfold putD
  rw [if_pos, setAll_ent, map_entK]
  exact List.any_eq_true.mpr ⟨entK e, h, by simp⟩
theorem look_ent {e : Ent} : ∀ {m : List Ent}, (m.map entK).Nodup → e ∈ m → lookK (m.map entK) (m.map entD) (entK e) = some (entD e)
  | x :: m, nd, h => by
    rw [List.map_cons, List.nodup_cons] at nd
    show (if entK x = entK e then some (entD x) else lookK (m.map entK) (m.map entD) (entK e)) = _
    rcases List.mem_cons.mp h with rfl | h
    · rw [if_pos rfl]
    · have hne : entK x ≠ entK e := fun z => nd.1 (z ▸ List.mem_map.mpr ⟨e, h, rfl⟩)
      rw [if_neg hne]
      exact look_ent nd.2 h
theorem drop_ent (k : List L2.Key) : ∀ m : List Ent, dropD k (m.map entK) (m.map entD) = ((m.filter fun x => !decide (entK x = k)).map entK, (m.filter fun x => !decide (entK x = k)).map entD)
  | [] => rfl
  | x :: m => by
    show (if entK x = k then dropD k (m.map entK) (m.map entD) else (entK x :: (dropD k (m.map entK) (m.map entD)).1, entD x :: (dropD k (m.map entK) (m.map entD)).2)) = _
    by_cases h : entK x = k
    · rw [if_pos h, drop_ent k m, List.filter_cons_of_neg (by simp [h])]
    · rw [if_neg h, drop_ent k m, List.filter_cons_of_pos (by simp [h])]; rfl
/-! sorted -/
theorem isort_perm {α : Type} {le : α → α → Bool} : ∀ l : List α, (isort le l).Perm l
  | [] => .refl _
  | a :: l => by
    have ins : ∀ (a : α) (l : List α), (insD le a l).Perm (a :: l) := by
      intro a l
      induction l with
      | nil => exact .refl _
      | cons b l ih =>
        unfold insD
        split
        · exact .refl _
        · exact (ih.cons b).trans (.swap ..)
    exact (ins a _).trans ((isort_perm l).cons a)
theorem isort_map {α β : Type} {le : β → β → Bool} (f : α → β) : ∀ l : List α, isort le (l.map f) = (isort (fun a b => le (f a) (f b)) l).map f
  | [] => rfl
  | a :: l => by
    have ins : ∀ (a : α) (l : List α), insD le (f a) (l.map f) = (insD (fun a b => le (f a) (f b)) a l).map f := by
      intro a l
      induction l with
      | nil => rfl
      | cons b l ih =>
        show (if le (f a) (f b) = true then f a :: f b :: l.map f else f b :: insD le (f a) (l.map f)) = List.map f (if le (f a) (f b) = true then a :: b :: l else b :: insD (fun a b => le (f a) (f b)) a l)
        rw [ih]
        split <;> rfl
    show insD le (f a) (isort le (l.map f)) = _
    rw [isort_map f l, ins]
    rfl
theorem isort_pw {α : Type} {le : α → α → Bool} (tr : ∀ a b c : α, le a b = true → le b c = true → le a c = true) (to : ∀ a b : α, (le a b || le b a) = true) (l : List α) : (isort le l).Pairwise (fun a b => le a b = true) := by
  rw [← msort_eq tr to]
  exact List.pairwise_mergeSort tr to l
theorem le_same (a : Str) (k k' : Int) (h : leD (.tup [.str a, .int k]) (.tup [.str a, .int k']) = true) : k ≤ k' := by
  refine Int.not_lt.mp fun hlt => ?_
  have e : PySem.W.dataLt (D.py (.tup [.str a, .int k'])) (D.py (.tup [.str a, .int k])) = true := by
    show PyProof.Rows.lexLt PyProof.Rows.itemOrd ([.inl 1, .inr a.cps.toList, .inl 1] ++ [.inl k', .inl 0]) ([.inl 1, .inr a.cps.toList, .inl 1] ++ [.inl k, .inl 0]) = true
    rw [PySem.W.lex_pre, PySem.W.lex_atom (by intro z; injection z with z; omega)]
    have : (Sum.inl k' : Int ⊕ List Nat) ≠ Sum.inl k := by intro z; injection z with z; omega
    simp [PyProof.Rows.lexLt, PyProof.Rows.itemLt, this, hlt]
  unfold leD at h
  rw [e] at h
  cases h
def Two (d : D) : Prop := ∃ (a : Str) (k : Int), d = .tup [.str a, .int k]
theorem sortOk_two {ds : List D} (h : ∀ d ∈ ds, Two d) : sortOk ds = true := by
  have pls : ∀ ds : List D, (∀ d ∈ ds, Two d) → D.pls ds = true := by
    intro ds
    induction ds with
    | nil => intro _; rfl
    | cons d ds ih =>
      intro h
      obtain ⟨a, k, rfl⟩ := h d (List.mem_cons_self ..)
      show (true && D.pls ds) = true
      rw [ih fun x m => h x (List.mem_cons_of_mem _ m)]; rfl
  unfold sortOk
  rw [Bool.and_eq_true, Bool.and_eq_true, Bool.and_eq_true]
  refine ⟨⟨⟨pls ds h, ?_⟩, ?_⟩, ?_⟩
  · rw [List.all_eq_true]
    intro x hx
    rw [List.all_eq_true]
    intro y hy
    obtain ⟨a, k, rfl⟩ := h x hx
    obtain ⟨a', k', rfl⟩ := h y hy
    rfl
  · rw [Bool.or_eq_true, List.all_eq_true]
    left
    intro x hx
    obtain ⟨a, k, rfl⟩ := h x hx
    rfl
  · rw [List.all_eq_true]
    intro x hx
    obtain ⟨a, k, rfl⟩ := h x hx
    rfl
def srtE (m : List Ent) : List Ent := isort (fun a b => leD (kk a) (kk b)) m
theorem sorted_ents (m : List Ent) : biF .sorted [.lst (m.map kk)] = .ok (.lst ((srtE m).map kk)) := by
  show (if sortOk (m.map kk) = true then R.ok (D.lst (isort leD (m.map kk))) else _) = _
  rw [if_pos (sortOk_two fun d hd => by obtain ⟨e, _, rfl⟩ := List.mem_map.mp hd; exact ⟨_, _, rfl⟩), isort_map]
  rfl
theorem srtE_mem {m : List Ent} {e : Ent} : e ∈ srtE m ↔ e ∈ m := (isort_perm m).mem_iff
/-- the rows of one kind, as sorted -/
theorem srtE_kind {m : List Ent} (nd : (m.map entK).Nodup) (n : Str) : (((srtE m).filter fun e => e.1 == n).map (·.2.key)).Pairwise (· < ·) := by
  have h1 : (srtE m).Pairwise (fun a b => leD (kk a) (kk b) = true) := isort_pw (le := fun a b => leD (kk a) (kk b)) (fun a b c => leD_tr (kk a) (kk b) (kk c)) (fun a b => leD_to (kk a) (kk b)) m
  have h2 : (srtE m).Pairwise (fun a b => entK a ≠ entK b) := by
    have : ((srtE m).map entK).Nodup := ((isort_perm m).map entK).nodup_iff.mpr nd
    exact List.pairwise_map.mp this
  have h3 := (h1.and h2).filter (fun e : Ent => e.1 == n)
  rw [List.pairwise_map]
  refine List.Pairwise.imp_of_mem ?_ h3
  intro a b ha hb ⟨hl, hk⟩
  have ea : a.1 = n := by simpa using (List.mem_filter.mp ha).2
  have eb : b.1 = n := by simpa using (List.mem_filter.mp hb).2
  unfold kk at hl
  rw [ea, eb] at hl
  have := le_same _ _ _ hl
  have hne : a.2.key ≠ b.2.key := fun z => hk (entK_inj.mpr ⟨ea.trans eb.symm, z⟩)
  omega
theorem rows_eq : ∀ {l1 l2 : List Rw}, (l1.map (·.key)).Pairwise (· < ·) → (l2.map (·.key)).Pairwise (· < ·) → (∀ r, r ∈ l1 ↔ r ∈ l2) → l1 = l2
  | [], [], _, _, _ => rfl
  | [], b :: l2, _, _, h => by have := (h b).mpr (List.mem_cons_self ..); cases this
  | a :: l1, [], _, _, h => by have := (h a).mp (List.mem_cons_self ..); cases this
  | a :: l1, b :: l2, p1, p2, h => by
    rw [List.map_cons, List.pairwise_cons] at p1 p2
    have lt1 : ∀ r ∈ l1, a.key < r.key := fun r hr => p1.1 _ (List.mem_map.mpr ⟨r, hr, rfl⟩)
    have lt2 : ∀ r ∈ l2, b.key < r.key := fun r hr => p2.1 _ (List.mem_map.mpr ⟨r, hr, rfl⟩)
    have e : a = b := by
      rcases List.mem_cons.mp ((h a).mp (List.mem_cons_self ..)) with e | m1
      · exact e
      · rcases List.mem_cons.mp ((h b).mpr (List.mem_cons_self ..)) with e | m2
        · exact e.symm
        · have := lt1 b m2; have := lt2 a m1; omega
    subst e
    congr 1
    refine rows_eq p1.2 p2.2 fun r => ⟨fun hr => ?_, fun hr => ?_⟩
    · rcases List.mem_cons.mp ((h r).mp (List.mem_cons_of_mem _ hr)) with e | m
      · have := lt1 r hr; rw [e] at this; omega
      · exact m
    · rcases List.mem_cons.mp ((h r).mpr (List.mem_cons_of_mem _ hr)) with e | m
      · have := lt2 r hr; rw [e] at this; omega
      · exact m
/-! the dict and the store -/
end Pu

end
section
open Hr Wk PySem
namespace Pu
/-! ### XA: rows as pairs of kind and key, where links lead -/
abbrev Pr := Str × Int
def lk1 (p : Fld × D) : Option Pr := match p.1.2, p.2 with
  | .lnk g _ _, .int k => some (g, k)
  | _, _ => none
def lksR (fs : List Fld) (vals : List D) : List Pr := (fs.zip vals).filterMap lk1
def gls1 (p : Pr) (q : Knd × Shf) : List Pr := q.2.rows.flatMap fun r => if (q.1.1, r.key) = p then lksR q.1.2 r.vals else []
def glsP (sch : List Knd) (sto : List Shf) (p : Pr) : List Pr := (sch.zip sto).flatMap (gls1 p)
def rowsP (sch : List Knd) (sto : List Shf) : List Pr := (sch.zip sto).flatMap fun q => q.2.rows.map fun r => (q.1.1, r.key)
theorem mem_rowsP {sch : List Knd} {sto : List Shf} {p : Pr} : p ∈ rowsP sch sto ↔ ∃ q ∈ sch.zip sto, ∃ r ∈ q.2.rows, (q.1.1, r.key) = p := by
  unfold rowsP
  simp only [List.mem_flatMap, List.mem_map]
theorem zip_pw {sch : List Knd} {sto : List Shf} (nd : (sch.map (·.1)).Nodup) (hl : sto.length = sch.length) : (sch.zip sto).Pairwise (fun a b => a.1.1 ≠ b.1.1) := by
  have e : (sch.zip sto).map (·.1) = sch := List.map_fst_zip (by omega)
  have : ((sch.zip sto).map fun x => x.1.1).Nodup := by
    have q : ((sch.zip sto).map fun x => x.1.1) = ((sch.zip sto).map (·.1)).map (·.1) := by rw [List.map_map]; rfl
    rw [q, e]; exact nd
  exact List.pairwise_map.mp this
theorem keys_pw {ks : Str → List Int} {kd : Knd} {sh : Shf} (h : ShW ks kd sh) : sh.rows.Pairwise (fun a b => a.key ≠ b.key) := (List.pairwise_map.mp h.pw).imp fun h => by omega
theorem flatMap_nil {α β : Type} {f : α → List β} : ∀ {l : List α}, (∀ x ∈ l, f x = []) → l.flatMap f = []
  | [], _ => rfl
  | a :: l, h => by rw [List.flatMap_cons, h a List.mem_cons_self, flatMap_nil fun x hx => h x (List.mem_cons_of_mem _ hx)]; rfl
theorem flatMap_one {α β κ : Type} {key : α → κ} {f : α → List β} {a : α} : ∀ {l : List α}, a ∈ l → l.Pairwise (fun x y => key x ≠ key y) → (∀ x ∈ l, key x ≠ key a → f x = []) → l.flatMap f = f a
  | [], ha, _, _ => by cases ha
  | x :: l, ha, pw, h => by
    obtain ⟨p1, p2⟩ := List.pairwise_cons.mp pw
    rw [List.flatMap_cons]
    rcases List.mem_cons.mp ha with e | ha
    · subst e
      rw [flatMap_nil fun y hy => h y (List.mem_cons_of_mem _ hy) fun z => p1 y hy z.symm]
      simp
    · rw [h x List.mem_cons_self (p1 a ha), flatMap_one ha p2 fun y hy => h y (List.mem_cons_of_mem _ hy)]
      rfl
theorem glsP_at {sch : List Knd} {sto : List Shf} (w : Wh sch sto) {q : Knd × Shf} (hq : q ∈ sch.zip sto) {r : Rw} (hr : r ∈ q.2.rows) : glsP sch sto (q.1.1, r.key) = lksR q.1.2 r.vals := by
  unfold glsP
  rw [flatMap_one (key := fun x : Knd × Shf => x.1.1) (f := gls1 (q.1.1, r.key)) hq (zip_pw w.nd w.len) fun x hx hne => flatMap_nil fun y hy => if_neg fun z => hne (Prod.mk.inj z).1]
  unfold gls1
  rw [flatMap_one (key := fun x : Rw => x.key) (f := fun x => if (q.1.1, x.key) = (q.1.1, r.key) then lksR q.1.2 x.vals else []) hr (keys_pw (w.sh q hq)) fun x hx hne => if_neg fun z => hne (Prod.mk.inj z).2]
  exact if_pos rfl
theorem glsP_none {sch : List Knd} {sto : List Shf} {p : Pr} (h : p ∉ rowsP sch sto) : glsP sch sto p = [] :=
  flatMap_nil fun q hq => flatMap_nil fun r hr => if_neg fun z => h (mem_rowsP.mpr ⟨q, hq, r, hr, z⟩)
theorem rowsP_nd {sch : List Knd} {sto : List Shf} (w : Wh sch sto) : (rowsP sch sto).Nodup := by
  unfold rowsP List.Nodup
  rw [List.pairwise_flatMap]
  refine ⟨fun q hq => List.pairwise_map.mpr ((keys_pw (w.sh q hq)).imp fun hne z => hne (congrArg Prod.snd z)), (zip_pw w.nd w.len).imp fun {a b} hne x hx y hy z => ?_⟩
  obtain ⟨r, _, rfl⟩ := List.mem_map.mp hx
  obtain ⟨r', _, rfl⟩ := List.mem_map.mp hy
  exact hne (Prod.mk.inj z).1
theorem keysAt_rowG {sch : List Knd} {sto : List Shf} (wnd : (sch.map (·.1)).Nodup) (wlen : sto.length = sch.length) {g : Str} (hg : g ∈ sch.map (·.1)) {k : Int} : k ∈ keysAt sch sto g ↔ (g, k) ∈ rowsP sch sto := by
  obtain ⟨kd, hm, rfl⟩ := List.mem_map.mp hg
  obtain ⟨sh, hp⟩ := zip_of_left wlen hm
  have e := keysAt_mem wnd hp
  simp only at e
  rw [e, mem_rowsP]
  constructor
  · intro h
    obtain ⟨r, hr, rfl⟩ := List.mem_map.mp h
    exact ⟨_, hp, r, hr, rfl⟩
  · rintro ⟨q, hq, r, hr, z⟩
    injection z with z1 z2
    obtain ⟨i, e1, e2⟩ := zip_mem_at hq
    obtain ⟨i', e1', e2'⟩ := zip_mem_at hp
    have ek := kd_of wnd e1' (List.mem_of_getElem? e1) z1
    have : q = (kd, sh) := by
      have pw := zip_pw wnd wlen
      have := keysAt_eq wnd e1 e2
      by_cases hqe : q = (kd, sh)
      · exact hqe
      · exfalso
        have key : ∀ {l : List (Knd × Shf)}, l.Pairwise (fun a b => a.1.1 ≠ b.1.1) → ∀ a ∈ l, ∀ b ∈ l, a.1.1 = b.1.1 → a = b := by
          intro l
          induction l with
          | nil => intro _ a ha; cases ha
          | cons x l ih =>
            intro pw a ha b hb e
            obtain ⟨p1, p2⟩ := List.pairwise_cons.mp pw
            rcases List.mem_cons.mp ha with h1 | h1
            · rcases List.mem_cons.mp hb with h2 | h2
              · rw [h1, h2]
              · rw [h1] at e; exact absurd e (p1 b h2)
            · rcases List.mem_cons.mp hb with h2 | h2
              · rw [h2] at e; exact absurd e.symm (p1 a h1)
              · exact ih p2 a h1 b h2 e
        exact hqe (key pw q hq _ hp z1)
    subst this
    rw [← z2]
    exact List.mem_map.mpr ⟨r, hr, rfl⟩
theorem keysAt_row {sch : List Knd} {sto : List Shf} (w : Wh sch sto) {g : Str} (hg : g ∈ sch.map (·.1)) {k : Int} : k ∈ keysAt sch sto g ↔ (g, k) ∈ rowsP sch sto := keysAt_rowG w.nd w.len hg
theorem lk1_mem {fs : List Fld} {vals : List D} {p : Pr} : p ∈ lksR fs vals ↔ ∃ f d m ru, (f, d) ∈ fs.zip vals ∧ f.2 = .lnk p.1 m ru ∧ d = .int p.2 := by
  unfold lksR
  rw [List.mem_filterMap]
  constructor
  · rintro ⟨⟨f, d⟩, hm, e⟩
    unfold lk1 at e
    simp only at e
    split at e
    · rename_i g m ru k e1
      cases e
      exact ⟨f, _, m, ru, hm, e1, rfl⟩
    · cases e
  · rintro ⟨f, d, m, ru, hm, e1, e2⟩
    refine ⟨(f, d), hm, ?_⟩
    unfold lk1
    simp only [e1, e2]
theorem lksR_len (fs : List Fld) (vals : List D) : (lksR fs vals).length ≤ fs.length := by
  unfold lksR
  refine Nat.le_trans (List.length_filterMap_le ..) ?_
  rw [List.length_zip]
  omega
/-- links lead to rows -/
theorem gls_rows {sch : List Knd} {sto : List Shf} (w : St sch sto) {p q : Pr} (h : q ∈ glsP sch sto p) : q ∈ rowsP sch sto := by
  by_cases hp : p ∈ rowsP sch sto
  · obtain ⟨x, hx, r, hr, rfl⟩ := mem_rowsP.mp hp
    rw [glsP_at w.wh hx hr] at h
    obtain ⟨f, d, m, ru, hm, e1, e2⟩ := lk1_mem.mp h
    have v := ((w.wh.sh x hx).val r hr).2 (f, d) hm
    simp only at v
    rw [e1, e2] at v
    have hf : f ∈ x.1.2 := (List.of_mem_zip hm).1
    have hkd : x.1 ∈ sch := (List.of_mem_zip (show (x.1, x.2) ∈ _ from hx)).1
    have hg := w.sc.gl x.1 hkd f hf q.1 (by rw [e1]; rfl)
    rcases v with ⟨z, _⟩ | ⟨k, hk, z⟩
    · cases z
    · cases z
      exact (keysAt_row w.wh hg).mp hk
  · rw [glsP_none hp] at h; cases h
theorem gls_len {sch : List Knd} {sto : List Shf} (w : St sch sto) (p : Pr) : (glsP sch sto p).length ≤ 8 := by
  by_cases hp : p ∈ rowsP sch sto
  · obtain ⟨x, hx, r, hr, rfl⟩ := mem_rowsP.mp hp
    rw [glsP_at w.wh hx hr]
    have hkd : x.1 ∈ sch := (List.of_mem_zip (show (x.1, x.2) ∈ _ from hx)).1
    exact Nat.le_trans (lksR_len ..) (w.sc.f8 x.1 hkd).2
  · rw [glsP_none hp]; decide
/-- led to in one step or more -/
inductive Rch (sch : List Knd) (sto : List Shf) (p : Pr) : Pr → Prop
  | one {q : Pr} : q ∈ glsP sch sto p → Rch sch sto p q
  | more {q r : Pr} : Rch sch sto p q → r ∈ glsP sch sto q → Rch sch sto p r
theorem Rch.row {sch : List Knd} {sto : List Shf} (w : St sch sto) {p q : Pr} (h : Rch sch sto p q) : q ∈ rowsP sch sto := by cases h with
  | one h => exact gls_rows w h
  | more _ h => exact gls_rows w h
theorem Rch.sub {sch : List Knd} {sto : List Shf} {p q : Pr} {M : Pr → Prop} (h : Rch sch sto p q) (h1 : ∀ x ∈ glsP sch sto p, M x) (h2 : ∀ x, M x → ∀ y ∈ glsP sch sto x, M y) : M q := by
  induction h with
  | one h => exact h1 _ h
  | more _ h ih => exact h2 _ ih _ h
theorem Rch.trans {sch : List Knd} {sto : List Shf} {p q r : Pr} (h : Rch sch sto p q) (h2 : Rch sch sto q r) : Rch sch sto p r :=
  h2.sub (fun x hx => .more h hx) fun x hx y hy => .more hx hy
open Classical in
noncomputable def rchL (sch : List Knd) (sto : List Shf) (p : Pr) : List Pr := srtP ((rowsP sch sto).filter fun q => decide (Rch sch sto p q))
theorem mem_rchL {sch : List Knd} {sto : List Shf} (w : St sch sto) {p q : Pr} : q ∈ rchL sch sto p ↔ Rch sch sto p q := by
  classical
  unfold rchL
  rw [mem_srtP, List.mem_filter, decide_eq_true_iff]
  exact ⟨fun h => h.2, fun h => ⟨h.row w, h⟩⟩
theorem isortP_perm (l : List Pr) : (isort lePr l).Perm l := by rw [← msort_eq lePr_tr lePr_to]; exact List.mergeSort_perm ..
theorem isortP_pw (l : List Pr) : (isort lePr l).Pairwise (fun a b => lePr a b = true) := by rw [← msort_eq lePr_tr lePr_to]; exact List.pairwise_mergeSort lePr_tr lePr_to _
theorem isortP_srt {l ps : List Pr} (nd : l.Nodup) (h : ∀ x, x ∈ l ↔ x ∈ ps) : isort lePr l = srtP ps :=
  srtP_eq (isortP_pw l) ((isortP_perm l).nodup_iff.mpr nd) fun x => (isortP_perm l).mem_iff.trans (h x)
theorem sort_rch {sch : List Knd} {sto : List Shf} (w : St sch sto) {p : Pr} {made : List Pr} (nd : made.Nodup) (h : ∀ x, x ∈ made ↔ Rch sch sto p x) : isort lePr made = rchL sch sto p :=
  isortP_srt nd fun x => (h x).trans (by rw [← mem_rchL w]; unfold rchL; rw [mem_srtP])
/-! pairs as data -/
theorem prD_eqv (a b : Pr) : D.eqv (prD a) (prD b) = decide (a = b) := by
  have e : D.eqv (prD a) (prD b) = ((a.1 == b.1) && ((a.2 == b.2) && true)) := rfl
  rw [e, Bool.and_true, Bool.eq_iff_iff, Bool.and_eq_true, beq_iff_eq, beq_iff_eq, decide_eq_true_iff]
  exact ⟨fun h => Prod.ext h.1 h.2, fun h => by rw [h]; exact ⟨rfl, rfl⟩⟩
theorem prD_pls : ∀ ps : List Pr, D.pls (ps.map prD) = true
  | [] => rfl
  | p :: ps => by show (true && D.pls (ps.map prD)) = true; rw [prD_pls ps]; rfl
theorem prD_flat (p : Pr) : flat 1 (prD p) = true := rfl
theorem prs_flat (ps : List Pr) : flats 1 (ps.map prD) = true := flats_of fun d hd => by obtain ⟨p, _, rfl⟩ := List.mem_map.mp hd; rfl
theorem in_prs (x : Pr) (ps : List Pr) : dIn (prD x) (.lst (ps.map prD)) = .ok (decide (x ∈ ps)) := by
  show dInL _ _ = _
  unfold dInL
  have e : (prD x).pl = true := rfl
  have d0 : (prD x).dep = 1 := rfl
  rw [e, prD_pls, d0, if_pos (by simp; omega), List.any_map]
  congr 1
  rw [Bool.eq_iff_iff, List.any_eq_true, decide_eq_true_iff]
  constructor
  · rintro ⟨y, hy, h⟩
    have h : D.eqv (prD y) (prD x) = true := h
    rw [prD_eqv] at h
    rw [← of_decide_eq_true h]; exact hy
  · intro h
    exact ⟨x, h, by show D.eqv (prD x) (prD x) = true; rw [prD_eqv]; simp⟩
theorem notin_prs (x : Pr) (ps : List Pr) : dCmp .NotIn (prD x) (.lst (ps.map prD)) = .ok (!decide (x ∈ ps)) := not_in (in_prs x ps)
theorem eq_prs (a b : Pr) : dEq (prD a) (prD b) = .ok (decide (a = b)) := by rw [eq_pl (a := prD a) (b := prD b) rfl rfl (show 1 ≤ 60 by decide), prD_eqv]
theorem two_prs {ps : List Pr} : ∀ d ∈ ps.map prD, Two d := fun d hd => by obtain ⟨p, _, rfl⟩ := List.mem_map.mp hd; exact ⟨_, _, rfl⟩
theorem sorted_prs (ps : List Pr) : biF .sorted [.lst (ps.map prD)] = .ok (.lst ((isort lePr ps).map prD)) := by
  show dSort (.lst (ps.map prD)) = _
  have e : dSort (.lst (ps.map prD)) = if sortOk (ps.map prD) = true then .ok (.lst (isort leD (ps.map prD))) else .stuck := rfl
  rw [e, if_pos (sortOk_two two_prs), isort_map]
  rfl
theorem sset_prs {ps : List Pr} (h : ps.length < 63) : dSortSet (.lst (ps.map prD)) = .ok (.lst ((srtP ps).map prD)) := by
  cases ps with
  | nil => rfl
  | cons p ps =>
    have e : dSortSet (.lst ((p :: ps).map prD)) = match prsD ((p :: ps).map prD) with
      | some ps => R.of (if (nubP ps).length < 63 then some (D.lst ((srtP ps).map prD)) else none)
      | none => .stuck := rfl
    rw [e, prsD_map]
    simp only
    rw [if_pos (Nat.lt_of_le_of_lt (nubP_len _) h)]
    rfl
end Pu

end
section
open Hr Wk PySem
namespace Pu
/-! ### XB: goals_of, all_rows, row_counts -/
theorem find_row : ∀ {l : List Rw}, l.Pairwise (fun a b => a.key ≠ b.key) → ∀ {r : Rw}, r ∈ l → l.find? (fun x => x.key == r.key) = some r
  | [], _, r, hr => by cases hr
  | x :: l, pw, r, hr => by
    obtain ⟨p1, p2⟩ := List.pairwise_cons.mp pw
    rw [List.find?_cons]
    rcases List.mem_cons.mp hr with e | hr
    · subst e; simp
    · have : (x.key == r.key) = false := beq_eq_false_iff_ne.mpr (p1 r hr)
      rw [this]
      exact find_row p2 hr
theorem zip_idx {fs : List Fld} {vals : List D} (h : vals.length = fs.length) : fs.zip vals = fs.zipIdx.map fun p => (p.1, valAt vals p.2) := by
  apply List.ext_getElem?
  intro i
  rw [List.getElem?_map, List.getElem?_zipIdx]
  by_cases hi : i < fs.length
  · rw [List.getElem?_eq_getElem (by rw [List.length_zip]; omega), List.getElem_zip]
    simp [valAt, List.getD_eq_getElem?_getD, List.getElem?_eq_getElem (show i < vals.length by omega), List.getElem?_eq_getElem hi]
  · rw [List.getElem?_eq_none (by rw [List.length_zip]; omega), List.getElem?_eq_none (by omega)]
    rfl
theorem lks_idx {fs : List Fld} {vals : List D} (h : vals.length = fs.length) : (fs.zipIdx.filter fun p => p.1.2.isLnk).filterMap (fun p => (lk1 (p.1, valAt vals p.2)).map prD) = (lksR fs vals).map prD := by
  unfold lksR
  rw [zip_idx h, List.filterMap_map, List.map_filterMap, List.filterMap_filter]
  congr 1
  funext p
  obtain ⟨⟨fnm, srt⟩, i⟩ := p
  cases srt <;> simp [Srt.isLnk, lk1]
theorem goals_ok {sch : List Knd} {sto : List Shf} (w : St sch sto) {q : Knd × Shf} (hq : q ∈ sch.zip sto) {r : Rw} (hr : r ∈ q.2.rows) : φ_goals_of [schD sch, stoD sto, .str q.1.1, .int r.key] = .ok (.lst ((srtP (glsP sch sto (q.1.1, r.key))).map prD)) := by
  obtain ⟨j, h1, h2⟩ := zip_mem_at hq
  rw [glsP_at w.wh hq hr]
  obtain ⟨kd, sh⟩ := q
  simp only at h1 h2 hr ⊢
  have hkd : kd ∈ sch := List.mem_of_getElem? h1
  have shw := w.wh.sh _ hq
  have v := shw.val r hr
  have hri := row_in_ok w.ws.st.ss h1 h2 r.key
  rw [find_row (keys_pw shw) hr] at hri
  simp only at hri
  have hlf := links_fields_ok w.wh.nd h1
  have h := lcA_over (f := fun p : Fld × Nat => D.tup [.int (p.2 : Nat), p.1.2.d]) (t := lcT (tgd (.tp (.cons (.nm 6) (.cons (.nm 7) .nil)))).f (den J_goals_of_0).t (den E_goals_of_0).v [some (schD sch), some (stoD sto), some (.str kd.1), some (.int r.key), some (.tup r.vals), none, none, none])
    (g := fun p : Fld × Nat => (lk1 (p.1, valAt r.vals p.2)).map prD) (xs := kd.2.zipIdx.filter fun p => p.1.2.isLnk) fun p hp => by
      obtain ⟨hp, hi⟩ := List.mem_filter.mp hp
      obtain ⟨⟨fnm, srt⟩, i⟩ := p
      have hfi : kd.2[i]? = some (fnm, srt) := by
        obtain ⟨pre, post, e⟩ := List.append_of_mem hp
        exact zipIdx_mem e
      have hv := at_val v.1 hfi
      have hs := v.at_ hfi hv
      have e3 : dSub2 (.tup r.vals) (.int (i : Nat)) = .ok (valAt r.vals i) := sub_t hv
      simp only
      cases srt with
      | num => cases hi
      | txt => cases hi
      | lnk g m ru =>
        rcases hs with ⟨e, _⟩ | ⟨k, _, e⟩
        · rw [e] at e3 ⊢
          simp [lcT, ftName, E_goals_of_0, J_goals_of_0, eVar, Srt.d, e3, lk1, prD, sizeLine_eq]
        · rw [e] at e3 ⊢
          simp [lcT, ftName, E_goals_of_0, J_goals_of_0, eVar, Srt.d, e3, lk1, prD, sizeLine_eq]
  rw [lks_idx v.1] at h
  have hss := sset_prs (ps := lksR kd.2 r.vals) (by have := lksR_len kd.2 r.vals; have := (w.sc.f8 kd hkd).2; omega)
  unfold φ_goals_of runS ir_goals_of
  simp [eVar, ftName, hri, hlf, wipeE, h, hss, -List.map_map]
theorem goals_ok' {sch : List Knd} {sto : List Shf} (w : St sch sto) {p : Pr} (hp : p ∈ rowsP sch sto) : φ_goals_of [schD sch, stoD sto, .str p.1, .int p.2] = .ok (.lst ((srtP (glsP sch sto p)).map prD)) := by
  obtain ⟨q, hq, r, hr, rfl⟩ := mem_rowsP.mp hp
  exact goals_ok w hq hr
def kRows (p : Knd × Shf) : List Pr := p.2.rows.map fun r => (p.1.1, r.key)
theorem names_zip {sch : List Knd} {sto : List Shf} (hl : sto.length = sch.length) : (sch.map (·.1)).map D.str = (sch.zip sto).map fun p => D.str p.1.1 := by
  have e : (sch.zip sto).map (·.1) = sch := List.map_fst_zip (by omega)
  have q : ((sch.zip sto).map fun x => D.str x.1.1) = (((sch.zip sto).map (·.1)).map (·.1)).map D.str := by rw [List.map_map, List.map_map]; rfl
  rw [q, e]
theorem kRows_len {sch : List Knd} {sto : List Shf} (w : St sch sto) {p : Knd × Shf} (hp : p ∈ sch.zip sto) : (kRows p).length ≤ 60 := by
  unfold kRows
  rw [List.length_map]
  exact w.rw _ (List.of_mem_zip (show (p.1, p.2) ∈ _ from hp)).2
theorem flat_lenP {α β : Type} {g : α → List β} {n : Nat} : ∀ {l : List α}, (∀ a ∈ l, (g a).length ≤ n) → (l.flatMap g).length ≤ n * l.length
  | [], _ => by simp
  | a :: l, h => by
    have h1 := h a List.mem_cons_self
    have h2 := flat_lenP (g := g) (l := l) fun x m => h x (List.mem_cons_of_mem _ m)
    rw [List.flatMap_cons, List.length_append, List.length_cons, Nat.mul_succ]
    omega
theorem pre_len {sch : List Knd} {sto : List Shf} (w : St sch sto) {pre post : List (Knd × Shf)} {b : Knd × Shf} (e : sch.zip sto = pre ++ b :: post) : (pre.flatMap kRows).length ≤ 480 := by
  have hl := congrArg List.length e
  rw [List.length_zip, List.length_append, List.length_cons] at hl
  have := w.sc.n8
  have := flat_lenP (g := kRows) (n := 60) (l := pre) fun a ha => kRows_len w (by rw [e]; exact List.mem_append_left _ ha)
  omega
theorem rowsP_len {sch : List Knd} {sto : List Shf} (w : St sch sto) : (rowsP sch sto).length ≤ 480 := by
  have := flat_lenP (g := kRows) (n := 60) (l := sch.zip sto) fun a ha => kRows_len w ha
  have e : (sch.zip sto).length ≤ 8 := by rw [List.length_zip]; have := w.sc.n8; omega
  show ((sch.zip sto).flatMap kRows).length ≤ 480
  omega
def IAR (sch : List Knd) (sto : List Shf) (pre : List (Knd × Shf)) (s : En) : Prop := ∃ x3 : Option D, s = [some (schD sch), some (stoD sto), some (.lst ((pre.flatMap kRows).map prD)), x3, none]
theorem keys_comp {sch : List Knd} {sto : List Shf} {b : Knd × Shf} {env : En} {t : D → R (Option D)} (ht : ∀ k : Int, t (.int k) = .ok (some (prD (b.1.1, k)))) : lcA t ((b.2.rows.map (·.key)).map D.int) [] = .ok ((kRows b).map prD) := by
  have h := lcA_over (f := fun r : Rw => D.int r.key) (t := t) (g := fun r : Rw => some (prD (b.1.1, r.key))) (xs := b.2.rows) fun r _ => ht r.key
  rw [fm_some] at h
  rw [List.map_map]
  unfold kRows
  rw [List.map_map]
  exact h
theorem row_counts_ok {sch : List Knd} {sto : List Shf} (w : St sch sto) : φ_row_counts [schD sch, stoD sto] = .ok (.lst ((sch.zip sto).map fun p => D.tup [.str p.1.1, .int (p.2.rows.length : Nat)])) := by
  have h := lcA_over (f := fun p : Knd × Shf => D.str p.1.1) (t := lcT (tgd (.nm 2)).f (den .no).t (den E_row_counts_0).v [some (schD sch), some (stoD sto), none]) (g := fun p : Knd × Shf => some (D.tup [.str p.1.1, .int (p.2.rows.length : Nat)])) (xs := sch.zip sto) fun b hb => by
    obtain ⟨j, a1, a2⟩ := zip_mem_at hb
    have hk := keys_ok w.ws.st.ss a1 a2
    simp [lcT, ftName, E_row_counts_0, eVar, hk, sizeLine_eq]
  rw [fm_some] at h
  have hn := kind_names_ok sch
  rw [names_zip w.wh.len] at hn
  unfold φ_row_counts runS ir_row_counts
  simp [eVar, hn, wipeE, h, -List.map_map]
end Pu

end
section
open Hr Wk PySem
namespace Pu
/-! ### XC: the law's own look: _law_goals, _law_rows -/
theorem int_f : biF .int [.bl false] = .ok (.int 0) := rfl
theorem int_t : biF .int [.bl true] = .ok (.int 1) := rfl
theorem mul_l0 (x : D) : dMul (.lst [x]) (.int 0) = .ok (.lst []) := by
  show (if -(2 ^ 63) ≤ (0 : Int) ∧ (0 : Int) < 2 ^ 63 ∧ [x].length * (0 : Int).toNat ≤ sizeLine then R.ok (D.lst (List.replicate (0 : Int).toNat [x]).flatten) else .stuck) = _
  rw [if_pos ⟨by decide, by decide, by rw [sizeLine_eq]; simp⟩]; rfl
theorem mul_l1 (x : D) : dMul (.lst [x]) (.int 1) = .ok (.lst [x]) := by
  show (if -(2 ^ 63) ≤ (1 : Int) ∧ (1 : Int) < 2 ^ 63 ∧ [x].length * (1 : Int).toNat ≤ sizeLine then R.ok (D.lst (List.replicate (1 : Int).toNat [x]).flatten) else .stuck) = _
  rw [if_pos ⟨by decide, by decide, by rw [sizeLine_eq]; simp⟩]; rfl
theorem num_1 : dSub2 (.str "number") (.int 1) = .ok (.str "u") := rfl
theorem txt_1 : dSub2 (.str "text") (.int 1) = .ok (.str "e") := rfl
def G13 (sch : List Knd) (sto : List Shf) (p : Pr) (made : List Pr) (x4 x5 x6 x7 x8 x9 x10 x11 x12 : Option D) : En := [some (schD sch), some (stoD sto), some (prD p), some (.lst (made.map prD)), x4, x5, x6, x7, x8, x9, x10, x11, x12]
def lkIf (p : Pr) (nm : Str) (key : Int) (l : List (Fld × D)) : List Pr := if (nm, key) = p then l.filterMap lk1 else []
theorem lkIf_snoc (p : Pr) (nm : Str) (key : Int) (l : List (Fld × D)) (b : Fld × D) : lkIf p nm key (l ++ [b]) = lkIf p nm key l ++ (if (nm, key) = p then (lk1 b).toList else []) := by
  unfold lkIf
  split
  · rw [List.filterMap_append]
    cases h : lk1 b <;> simp [h]
  · simp
def IG2 (sch : List Knd) (sto : List Shf) (p : Pr) (acc : List Pr) (x4 x8 : Option D) (kd : Knd) (r : Rw) (pre : List (Fld × D)) (s : En) : Prop := ∃ x10 x11 x12 : Option D, s = G13 sch sto p (acc ++ lkIf p kd.1 r.key pre) x4 (some (.str kd.1)) (some (.tup (kd.2.map fldD))) (some (.int r.key)) x8 (some (.tup r.vals)) x10 x11 x12
theorem law_goals_2 {ks : Str → List Int} (sch : List Knd) (sto : List Shf) (p : Pr) {acc : List Pr} (ha : acc.length ≤ 100000) (x4 x8 : Option D) (kd : Knd) {r : Rw} (hv : VRow ks kd.2 r.vals) (hf : kd.2.length ≤ 8) (pre : List (Fld × D)) (b : Fld × D) (post : List (Fld × D)) (s : En) (hx : kd.2.zip r.vals = pre ++ b :: post) (hi : IG2 sch sto p acc x4 x8 kd r pre s) :
    ∃ s2, turnD (tgd (.tp (.cons (.tp (.cons (.nm 11) (.cons (.nm 12) .nil))) (.cons (.nm 10) .nil)))).f (dS L__law_goals_2) (D.tup [fldD b.1, b.2]) s = .nx s2 ∧ IG2 sch sto p acc x4 x8 kd r (pre ++ [b]) s2 := by
  obtain ⟨x10, x11, x12, rfl⟩ := hi
  have hvb := hv.2 b (by rw [hx]; simp)
  obtain ⟨⟨fnm, srt⟩, d⟩ := b
  simp only at hvb
  have hpl : pre.length ≤ 8 := by
    have := congrArg List.length hx
    rw [List.length_zip, List.length_append, List.length_cons] at this
    omega
  have hlen : ((acc ++ lkIf p kd.1 r.key pre).map prD).length < 16777216 := by
    rw [List.length_map, List.length_append]
    have : (lkIf p kd.1 r.key pre).length ≤ pre.length := by
      unfold lkIf
      split
      · exact List.length_filterMap_le ..
      · simp
    omega
  unfold IG2
  rw [lkIf_snoc, ← List.append_assoc]
  generalize acc ++ lkIf p kd.1 r.key pre = made at hlen
  have heq : dEq (.tup [.str kd.1, .int r.key]) (prD p) = .ok (decide ((kd.1, r.key) = p)) := eq_prs (kd.1, r.key) p
  refine ⟨_, ?_, some d, some (.str fnm), some srt.d, rfl⟩
  simp only [G13]
  rw [List.map_append]
  generalize made.map prD = M at hlen
  have hle : M.length ≤ 16777216 := by omega
  have hle2 : M.length ≤ 16777215 := by omega
  generalize prD p = PD at heq
  by_cases hp : (kd.1, r.key) = p
  · rw [decide_eq_true hp] at heq
    rw [if_pos hp]
    cases srt with
    | num => obtain ⟨v, rfl, _⟩ := hvb; simp [turnD, L__law_goals_2, ftName, eVar, fldD, Srt.d, lk1, heq, int_f, int_t, mul_l0, mul_l1, num_1, txt_1, hle, hle2, sizeLine_eq, lstAt, optO, sExt]
    | txt => obtain ⟨v, rfl, _⟩ := hvb; simp [turnD, L__law_goals_2, ftName, eVar, fldD, Srt.d, lk1, heq, int_f, int_t, mul_l0, mul_l1, num_1, txt_1, hle, hle2, sizeLine_eq, lstAt, optO, sExt]
    | lnk g m ru =>
      rcases hvb with ⟨rfl, _⟩ | ⟨k, _, rfl⟩
      · simp [turnD, L__law_goals_2, ftName, eVar, fldD, Srt.d, lk1, heq, int_f, int_t, mul_l0, mul_l1, num_1, txt_1, hle, hle2, sizeLine_eq, lstAt, optO, sExt]
      · simp [turnD, L__law_goals_2, ftName, eVar, fldD, Srt.d, lk1, heq, int_f, int_t, mul_l0, mul_l1, num_1, txt_1, hle, hle2, sizeLine_eq, lstAt, optO, sExt, prD, hlen]
  · rw [decide_eq_false hp] at heq
    rw [if_neg hp]
    cases srt with
    | num => obtain ⟨v, rfl, _⟩ := hvb; simp [turnD, L__law_goals_2, ftName, eVar, fldD, Srt.d, lk1, heq, int_f, int_t, mul_l0, mul_l1, num_1, txt_1, hle, hle2, sizeLine_eq, lstAt, optO, sExt]
    | txt => obtain ⟨v, rfl, _⟩ := hvb; simp [turnD, L__law_goals_2, ftName, eVar, fldD, Srt.d, lk1, heq, int_f, int_t, mul_l0, mul_l1, num_1, txt_1, hle, hle2, sizeLine_eq, lstAt, optO, sExt]
    | lnk g m ru =>
      rcases hvb with ⟨rfl, _⟩ | ⟨k, _, rfl⟩
      · simp [turnD, L__law_goals_2, ftName, eVar, fldD, Srt.d, lk1, heq, int_f, int_t, mul_l0, mul_l1, num_1, txt_1, hle, hle2, sizeLine_eq, lstAt, optO, sExt]
      · simp [turnD, L__law_goals_2, ftName, eVar, fldD, Srt.d, lk1, heq, int_f, int_t, mul_l0, mul_l1, num_1, txt_1, hle, hle2, sizeLine_eq, lstAt, optO, sExt]
def lkRow (p : Pr) (kd : Knd) (r : Rw) : List Pr := if (kd.1, r.key) = p then lksR kd.2 r.vals else []
theorem lkRow_len (p : Pr) (kd : Knd) (r : Rw) : (lkRow p kd r).length ≤ kd.2.length := by
  unfold lkRow
  split
  · exact lksR_len ..
  · simp
def IG1 (sch : List Knd) (sto : List Shf) (p : Pr) (acc : List Pr) (x4 : Option D) (kd : Knd) (pre : List Rw) (s : En) : Prop := ∃ x7 x8 x9 x10 x11 x12 : Option D, s = G13 sch sto p (acc ++ pre.flatMap (lkRow p kd)) x4 (some (.str kd.1)) (some (.tup (kd.2.map fldD))) x7 x8 x9 x10 x11 x12
theorem law_goals_1 {ks : Str → List Int} (sch : List Knd) (sto : List Shf) (p : Pr) {acc : List Pr} (ha : acc.length ≤ 10000) (x4 : Option D) (kd : Knd) (hf : kd.2.length ≤ 8) (pre : List Rw) (r : Rw) (hv : VRow ks kd.2 r.vals) (hp : pre.length ≤ 900) (s : En) (hi : IG1 sch sto p acc x4 kd pre s) :
    ∃ s2, turnD (tgd (.tp (.cons (.nm 7) (.cons (.nm 8) (.cons (.nm 9) .nil))))).f (dS L__law_goals_1) (rwD r) s = .nx s2 ∧ IG1 sch sto p acc x4 kd (pre ++ [r]) s2 := by
  obtain ⟨x7, x8, x9, x10, x11, x12, rfl⟩ := hi
  have hl : (acc ++ pre.flatMap (lkRow p kd)).length ≤ 100000 := by
    have := flat_lenP (g := lkRow p kd) (n := 8) (l := pre) fun a _ => Nat.le_trans (lkRow_len p kd a) hf
    rw [List.length_append]
    omega
  obtain ⟨s', h1, y10, y11, y12, rfl⟩ := forD_run (I := IG2 sch sto p (acc ++ pre.flatMap (lkRow p kd)) x4 (some (.int r.ver)) kd r) (s := G13 sch sto p (acc ++ pre.flatMap (lkRow p kd)) x4 (some (.str kd.1)) (some (.tup (kd.2.map fldD))) (some (.int r.key)) (some (.int r.ver)) (some (.tup r.vals)) x10 x11 x12)
    (f := fun b : Fld × D => D.tup [fldD b.1, b.2]) (xs := kd.2.zip r.vals) ⟨x10, x11, x12, by unfold lkIf; simp⟩ (fun q b t s e i => law_goals_2 sch sto p hl x4 _ kd hv hf q b t s e i)
  have hz : zipL (kd.2.map fldD) r.vals = (kd.2.zip r.vals).map fun b : Fld × D => D.tup [fldD b.1, b.2] := by
    have := zipL_map fldD id kd.2 r.vals
    rw [List.map_id] at this
    exact this
  have he : lkIf p kd.1 r.key (kd.2.zip r.vals) = lkRow p kd r := rfl
  rw [he] at h1
  refine ⟨G13 sch sto p (acc ++ (pre ++ [r]).flatMap (lkRow p kd)) x4 (some (.str kd.1)) (some (.tup (kd.2.map fldD))) (some (.int r.key)) (some (.int r.ver)) (some (.tup r.vals)) y10 y11 y12, ?_, _, _, _, _, _, _, rfl⟩
  have ea : acc ++ (pre ++ [r]).flatMap (lkRow p kd) = acc ++ pre.flatMap (lkRow p kd) ++ lkRow p kd r := by simp
  rw [ea]
  simp only [G13] at h1 ⊢
  generalize (acc ++ pre.flatMap (lkRow p kd) ++ lkRow p kd r).map prD = M2 at *
  generalize (acc ++ pre.flatMap (lkRow p kd)).map prD = M1 at *
  simp [turnD, L__law_goals_1, ftName, eVar, rwD, hz, h1]
def IG0 (sch : List Knd) (sto : List Shf) (p : Pr) (pre : List (Knd × Shf)) (s : En) : Prop := ∃ x4 x5 x6 x7 x8 x9 x10 x11 x12 : Option D, s = G13 sch sto p (pre.flatMap (gls1 p)) x4 x5 x6 x7 x8 x9 x10 x11 x12
theorem gls1_eq (p : Pr) (q : Knd × Shf) : gls1 p q = q.2.rows.flatMap (lkRow p q.1) := rfl
theorem gls1_len {p : Pr} {q : Knd × Shf} (hf : q.1.2.length ≤ 8) (hr : q.2.rows.length ≤ 60) : (gls1 p q).length ≤ 480 := by
  have := flat_lenP (g := lkRow p q.1) (n := 8) (l := q.2.rows) fun a _ => Nat.le_trans (lkRow_len p q.1 a) hf
  rw [gls1_eq]
  omega
theorem law_goals_ok {sch : List Knd} {sto : List Shf} (w : St sch sto) (p : Pr) : φ__law_goals [schD sch, stoD sto, prD p] = .ok (.lst ((srtP (glsP sch sto p)).map prD)) := by
  obtain ⟨s', h1, x4, x5, x6, x7, x8, x9, x10, x11, x12, rfl⟩ := forD_run (I := IG0 sch sto p) (ft := (tgd (.tp (.cons (.tp (.cons (.nm 5) (.cons (.nm 6) .nil))) (.cons (.nm 4) .nil)))).f) (body := dS L__law_goals_0) (s := G13 sch sto p [] none none none none none none none none none)
    (f := fun q : Knd × Shf => D.tup [kndD q.1, shD q.2]) (xs := sch.zip sto) ⟨none, none, none, none, none, none, none, none, none, rfl⟩ (fun pre b post s e hi => by
      obtain ⟨x4, x5, x6, x7, x8, x9, x10, x11, x12, rfl⟩ := hi
      have mem : ∀ q ∈ pre ++ b :: post, q.1.2.length ≤ 8 ∧ q.2.rows.length ≤ 60 ∧ ShW (keysAt sch sto) q.1 q.2 := fun q hq => by
        rw [← e] at hq
        have z := List.of_mem_zip (show (q.1, q.2) ∈ _ from hq)
        exact ⟨(w.sc.f8 _ z.1).2, w.rw _ z.2, w.wh.sh q hq⟩
      obtain ⟨m1, m2, m3⟩ := mem b (by simp)
      have hpl : pre.length ≤ 8 := by
        have := congrArg List.length e
        rw [List.length_zip, List.length_append, List.length_cons] at this
        have := w.sc.n8
        omega
      have hl := flat_lenP (g := gls1 p) (n := 480) (l := pre) fun q hq => by
        obtain ⟨z1, z2, _⟩ := mem q (List.mem_append_left _ hq)
        exact gls1_len z1 z2
      obtain ⟨kd, sh⟩ := b
      simp only at m1 m2 m3
      obtain ⟨s', h1, y7, y8, y9, y10, y11, y12, rfl⟩ := forD_run (I := IG1 sch sto p (pre.flatMap (gls1 p)) (some (shD sh)) kd) (s := G13 sch sto p (pre.flatMap (gls1 p)) (some (shD sh)) (some (.str kd.1)) (some (.tup (kd.2.map fldD))) x7 x8 x9 x10 x11 x12)
        (f := rwD) (xs := sh.rows) ⟨x7, x8, x9, x10, x11, x12, by simp⟩ (fun q r t s e2 i => law_goals_1 sch sto p (by omega) _ kd m1 q r (m3.val r (by rw [e2]; simp)) (by
          have := congrArg List.length e2
          rw [List.length_append, List.length_cons] at this
          omega) s i)
      refine ⟨G13 sch sto p ((pre ++ [(kd, sh)]).flatMap (gls1 p)) (some (shD sh)) (some (.str kd.1)) (some (.tup (kd.2.map fldD))) y7 y8 y9 y10 y11 y12, ?_, _, _, _, _, _, _, _, _, _, rfl⟩
      have ea : (pre ++ [(kd, sh)]).flatMap (gls1 p) = pre.flatMap (gls1 p) ++ sh.rows.flatMap (lkRow p kd) := by rw [List.flatMap_append]; simp [gls1_eq]
      rw [ea]
      simp only [G13] at h1 ⊢
      generalize (pre.flatMap (gls1 p) ++ sh.rows.flatMap (lkRow p kd)).map prD = M2 at *
      generalize (pre.flatMap (gls1 p)).map prD = M1 at *
      simp only [shD] at h1 ⊢
      simp [turnD, L__law_goals_0, ftName, eVar, kndD, h1])
  have hz := zipL_map kndD shD sch sto
  have hss := sset_prs (ps := glsP sch sto p) (by have := gls_len w p; omega)
  have hg : (sch.zip sto).flatMap (gls1 p) = glsP sch sto p := rfl
  rw [hg] at h1
  unfold φ__law_goals runS ir__law_goals
  simp only [G13, schD, stoD, List.map_nil] at h1
  simp [eVar, ftName, schD, stoD, sizeLine_eq, hz, h1, hss, -List.map_map]
/-! all rows with their values -/
abbrev RV := Pr × List D
def rvD (x : RV) : D := .tup x.2
def kRV (q : Knd × Shf) : List RV := q.2.rows.map fun r => ((q.1.1, r.key), r.vals)
def rowsV (sch : List Knd) (sto : List Shf) : List RV := (sch.zip sto).flatMap kRV
theorem rowsV_rows (sch : List Knd) (sto : List Shf) : (rowsV sch sto).map (·.1) = rowsP sch sto := by
  unfold rowsV rowsP
  rw [List.map_flatMap]
  congr 1
  funext q
  unfold kRV
  rw [List.map_map]
  rfl
def dicV (m : List RV) : D := .dic true (m.map fun x => prK x.1) (m.map rvD)
theorem put_rv {m : List RV} {x : RV} (h : x.1 ∉ m.map (·.1)) : putD (m.map fun x => prK x.1) (m.map rvD) (prK x.1) (rvD x) = ((m ++ [x]).map fun x => prK x.1, (m ++ [x]).map rvD) := by
  unfold putD
  rw [if_neg]
  · simp
  · intro z
    obtain ⟨k, hk, q⟩ := List.any_eq_true.mp z
    obtain ⟨y, hy, rfl⟩ := List.mem_map.mp hk
    exact h (prK_inj (of_decide_eq_true q) ▸ List.mem_map.mpr ⟨y, hy, rfl⟩)
end Pu

end
section
open Hr Wk PySem
namespace Pu
/-! ### XD: rows_reached -/
theorem whl_run {gc : En → R Bool} {body : En → Out} {I : Nat → En → Prop} {E : En → Prop} (step : ∀ m s, I m s → (gc s = .ok false ∧ E s) ∨ (gc s = .ok true ∧ ∃ s' m', m' < m ∧ body s = .nx s' ∧ I m' s')) : ∀ n m s, m < n → I m s → ∃ s', whlD gc body n s = .nx s' ∧ E s'
  | 0, m, s, h, _ => by omega
  | n + 1, m, s, h, i => by
    rcases step m s i with ⟨h1, h2⟩ | ⟨h1, s', m', hm, h2, h3⟩
    · refine ⟨s, ?_, h2⟩
      show ((gc s).go s fun b => if b then _ else Out.nx s) = _
      rw [h1]; rfl
    · obtain ⟨s2, e, h4⟩ := whl_run step n m' s' (by omega) h3
      refine ⟨s2, ?_, h4⟩
      show ((gc s).go s fun b => if b then (match body s with | .nx s' => whlD gc body n s' | .ct s' => whlD gc body n s' | .bk s' => .nx s' | .rt d => .rt d | .ex c s' => .ex c s' | .stuck => .stuck) else Out.nx s) = _
      rw [h1, h2]
      exact e
theorem nodup_le {α : Type} [DecidableEq α] : ∀ {l m : List α}, l.Nodup → (∀ x ∈ l, x ∈ m) → l.length ≤ m.length
  | [], _, _, _ => Nat.zero_le _
  | a :: l, m, nd, h => by
    obtain ⟨n1, n2⟩ := List.nodup_cons.mp nd
    have ha := h a List.mem_cons_self
    have h2 := nodup_le (m := m.erase a) n2 fun x hx => (List.mem_erase_of_ne (fun z => n1 (by rw [← z]; exact hx))).mpr (h x (List.mem_cons_of_mem _ hx))
    rw [List.length_erase_of_mem ha] at h2
    have := List.length_pos_of_mem ha
    rw [List.length_cons]
    omega
theorem srtP_len (ps : List Pr) : (srtP ps).length ≤ ps.length := by rw [(srtP_perm ps).length_eq]; exact nubP_len ps
def R7 (sch : List Knd) (sto : List Shf) (p : Pr) (made waiting : List Pr) (x6 : Option D) : En := [some (schD sch), some (stoD sto), some (.str p.1), some (.int p.2), some (.lst (made.map prD)), some (.lst (waiting.map prD)), x6]
structure RI (sch : List Knd) (sto : List Shf) (p : Pr) (made waiting : List Pr) : Prop where
  nd : made.Nodup
  mr : ∀ x ∈ made, Rch sch sto p x
  wr : ∀ x ∈ waiting, Rch sch sto p x
  p0 : ∀ x ∈ glsP sch sto p, x ∈ made ∨ x ∈ waiting
  cl : ∀ x ∈ made, ∀ y ∈ glsP sch sto x, y ∈ made ∨ y ∈ waiting
theorem RI.few {sch : List Knd} {sto : List Shf} (w : St sch sto) {p : Pr} {made waiting : List Pr} (h : RI sch sto p made waiting) : made.length ≤ (rowsP sch sto).length := nodup_le h.nd fun x hx => (h.mr x hx).row w
theorem RI.skip {sch : List Knd} {sto : List Shf} {p x : Pr} {made ws : List Pr} (h : RI sch sto p made (ws ++ [x])) (hx : x ∈ made) : RI sch sto p made ws where
  nd := h.nd
  mr := h.mr
  wr := fun y hy => h.wr y (List.mem_append_left _ hy)
  p0 := fun y hy => (h.p0 y hy).elim .inl fun z => (List.mem_append.mp z).elim .inr fun z => .inl (by rw [List.mem_singleton.mp z]; exact hx)
  cl := fun a ha y hy => (h.cl a ha y hy).elim .inl fun z => (List.mem_append.mp z).elim .inr fun z => .inl (by rw [List.mem_singleton.mp z]; exact hx)
theorem RI.take {sch : List Knd} {sto : List Shf} {p x : Pr} {made ws : List Pr} (h : RI sch sto p made (ws ++ [x])) (hx : x ∉ made) : RI sch sto p (made ++ [x]) (ws ++ srtP (glsP sch sto x)) where
  nd := by rw [List.nodup_append]; exact ⟨h.nd, by simp, fun a ha b hb => by rw [List.mem_singleton.mp hb]; exact fun z => hx (z ▸ ha)⟩
  mr := fun y hy => (List.mem_append.mp hy).elim (h.mr y) fun z => by rw [List.mem_singleton.mp z]; exact h.wr x (by simp)
  wr := fun y hy => (List.mem_append.mp hy).elim (fun z => h.wr y (List.mem_append_left _ z)) fun z => .more (h.wr x (by simp)) (mem_srtP.mp z)
  p0 := fun y hy => (h.p0 y hy).elim (fun z => .inl (List.mem_append_left _ z)) fun z => (List.mem_append.mp z).elim (fun z => .inr (List.mem_append_left _ z)) fun z => .inl (List.mem_append_right _ z)
  cl := fun a ha y hy => by
    rcases List.mem_append.mp ha with ha | ha
    · rcases h.cl a ha y hy with z | z
      · exact .inl (List.mem_append_left _ z)
      · exact (List.mem_append.mp z).elim (fun z => .inr (List.mem_append_left _ z)) fun z => .inl (List.mem_append_right _ z)
    · rw [List.mem_singleton.mp ha] at hy
      exact .inr (List.mem_append_right _ (mem_srtP.mpr hy))
theorem RI.done {sch : List Knd} {sto : List Shf} {p : Pr} {made : List Pr} (h : RI sch sto p made []) (x : Pr) : x ∈ made ↔ Rch sch sto p x :=
  ⟨h.mr x, fun r => r.sub (M := fun x => x ∈ made) (fun y hy => (h.p0 y hy).elim id fun z => by cases z) fun a ha y hy => (h.cl a ha y hy).elim id fun z => by cases z⟩
theorem nil_prs (ps : List Pr) : dEq (.lst (ps.map prD)) (.lst []) = .ok ps.isEmpty := by
  have h := lst_nilG (prs_flat ps)
  have e : (ps.map prD).isEmpty = ps.isEmpty := by cases ps <;> rfl
  rw [e] at h
  exact h
theorem reached_ok {sch : List Knd} {sto : List Shf} (w : St sch sto) (few : (rowsP sch sto).length ≤ 60) {p : Pr} (hp : p ∈ rowsP sch sto) : φ_rows_reached [schD sch, stoD sto, .str p.1, .int p.2] = .ok (.lst ((rchL sch sto p).map prD)) := by
  have hg := goals_ok' w hp
  have gl : ∀ x, (srtP (glsP sch sto x)).length ≤ 8 := fun x => Nat.le_trans (srtP_len _) (gls_len w x)
  obtain ⟨s', h1, made, x6, rfl, hm⟩ := whl_run (gc := (den (.cmp .NotEq (.var 5) (.lst .nil))).t) (body := dS L_rows_reached_0) (I := fun m s => ∃ made waiting x6, s = R7 sch sto p made waiting x6 ∧ RI sch sto p made waiting ∧ m = 10 * ((rowsP sch sto).length - made.length) + waiting.length ∧ m < 1000)
    (E := fun s => ∃ made x6, s = R7 sch sto p made [] x6 ∧ RI sch sto p made []) (fun m s ⟨made, waiting, x6, es, hi, em, hm1⟩ => by
      subst es
      have hne := nil_prs waiting
      rcases List.eq_nil_or_concat waiting with rfl | ⟨ws, x, rfl⟩
      · left
        refine ⟨?_, made, x6, rfl, hi⟩
        simp only [R7]
        have hne : dEq (.lst []) (.lst []) = .ok true := hne
        simp [eVar, hne, sizeLine_eq]
      · right
        rw [List.concat_eq_append] at *
        have hne : dEq (.lst ((ws ++ [x]).map prD)) (.lst []) = .ok false := by rw [hne]; simp
        refine ⟨by simp only [R7]; simp [eVar, hne, sizeLine_eq, -List.map_append], ?_⟩
        have hxr := (hi.wr x (by simp)).row w
        have hgx := goals_ok' w hxr
        have hc : dIn (.tup [.str x.1, .int x.2]) (.lst (made.map prD)) = .ok (decide (x ∈ made)) := in_prs x made
        have hfew := hi.few w
        have e5 : (ws ++ [x]).map prD = ws.map prD ++ [.tup [.str x.1, .int x.2]] := by rw [List.map_append]; rfl
        by_cases hx : x ∈ made
        · refine ⟨R7 sch sto p made ws (some (prD x)), _, ?_, ?_, made, ws, some (prD x), rfl, hi.skip hx, rfl, ?_⟩
          · rw [em, List.length_append]; simp
          · rw [decide_eq_true hx] at hc
            simp only [R7]
            rw [e5]
            simp [L_rows_reached_0, eVar, sPopL, lstAt, optO, hc, -List.map_map]
            rfl
          · rw [em, List.length_append] at hm1; simp at hm1; omega
        · have ht := hi.take hx
          have hfew2 := ht.few w
          rw [List.length_append] at hfew2
          simp only [List.length_singleton] at hfew2
          refine ⟨R7 sch sto p (made ++ [x]) (ws ++ srtP (glsP sch sto x)) (some (prD x)), _, ?_, ?_, made ++ [x], _, some (prD x), rfl, ht, rfl, ?_⟩
          · rw [em, List.length_append, List.length_append, List.length_append]
            have := gl x
            simp only [List.length_singleton]
            omega
          · rw [decide_eq_false hx] at hc
            have l1 : (made.map prD).length < 16777216 := by rw [List.length_map]; omega
            have l2 : (ws.map prD).length + ((srtP (glsP sch sto x)).map prD).length ≤ 16777216 := by
              rw [List.length_map, List.length_map]
              rw [em, List.length_append] at hm1
              have := gl x
              omega
            simp only [R7]
            rw [e5, List.map_append, List.map_append]
            generalize (srtP (glsP sch sto x)).map prD = P at *
            generalize ws.map prD = Q at *
            generalize made.map prD = M at *
            simp [L_rows_reached_0, eVar, sPopL, sExt, lstAt, optO, hc, hgx, l1, l2, sizeLine_eq, -List.map_map, prD]
          · rw [em, List.length_append] at hm1
            rw [List.length_append, List.length_append]
            have := gl x
            simp only [List.length_singleton] at hm1 ⊢
            omega)
    1000 _ (R7 sch sto p [] (srtP (glsP sch sto p)) none) (by have := gl p; simp only [List.length_nil]; omega) ⟨[], srtP (glsP sch sto p), none, rfl, ⟨List.nodup_nil, fun x hx => (nomatch hx), fun x hx => .one (mem_srtP.mp hx), fun x hx => .inr (mem_srtP.mpr hx), fun x hx => (nomatch hx)⟩, rfl, by have := gl p; simp only [List.length_nil]; omega⟩
  have hs := sorted_prs made
  rw [sort_rch w hm.nd hm.done] at hs
  simp only [R7, List.map_nil] at h1
  unfold φ_rows_reached runS ir_rows_reached
  simp [eVar, ftName, hg, h1, hs, sizeLine_eq, -List.map_map]
end Pu

end
section
open Hr Wk PySem
namespace Pu
/-! ### XE: _law_reached, _law_rows -/
def Q7 (sch : List Knd) (sto : List Shf) (p : Pr) (made : List Pr) (x4 x5 : Option D) : En := [some (schD sch), some (stoD sto), some (prD p), some (.lst (made.map prD)), x4, x5, none]
structure LI (sch : List Knd) (sto : List Shf) (p : Pr) (made : List Pr) : Prop where
  nd : made.Nodup
  mr : ∀ x ∈ made, Rch sch sto p x
  p0 : ∀ x ∈ glsP sch sto p, x ∈ made
theorem LI.few {sch : List Knd} {sto : List Shf} (w : St sch sto) {p : Pr} {made : List Pr} (h : LI sch sto p made) : made.length ≤ (rowsP sch sto).length := nodup_le h.nd fun x hx => (h.mr x hx).row w
theorem LI.more {sch : List Knd} {sto : List Shf} {p x : Pr} {made : List Pr} (h : LI sch sto p made) (hx : x ∈ made) : LI sch sto p (made ++ (srtP (glsP sch sto x)).filter fun y => !decide (y ∈ made)) where
  nd := by
    rw [List.nodup_append]
    refine ⟨h.nd, (srtP_nd _).filter _, fun a ha b hb z => ?_⟩
    obtain ⟨_, q⟩ := List.mem_filter.mp hb
    rw [← z, decide_eq_true ha] at q
    cases q
  mr := fun y hy => (List.mem_append.mp hy).elim (h.mr y) fun z => .more (h.mr x hx) (mem_srtP.mp (List.mem_filter.mp z).1)
  p0 := fun y hy => List.mem_append_left _ (h.p0 y hy)
theorem law_reached_1 {sch : List Knd} {sto : List Shf} (w : St sch sto) (few : (rowsP sch sto).length ≤ 60) {p x : Pr} {made : List Pr} (hi : LI sch sto p made) (hx : x ∈ made) (x4 x5 : Option D) :
    turnD (tgd (.nm 5)).f (dS L__law_reached_1) (prD x) (Q7 sch sto p made x4 x5) = .nx (Q7 sch sto p (made ++ (srtP (glsP sch sto x)).filter fun y => !decide (y ∈ made)) x4 (some (prD x))) := by
  have hg := law_goals_ok w x
  have h := lcA_over (f := prD) (t := lcT (tgd (.nm 6)).f (den J__law_reached_0).t (den E__law_reached_0).v (Q7 sch sto p made x4 (some (prD x)))) (g := fun y => if !decide (y ∈ made) then some (prD y) else none) (xs := srtP (glsP sch sto x)) fun y _ => by
    have hc := in_prs y made
    simp only [Q7]
    cases hd : decide (y ∈ made) with
    | true => rw [hd] at hc; simp [lcT, ftName, E__law_reached_0, J__law_reached_0, eVar, hc]
    | false => rw [hd] at hc; simp [lcT, ftName, E__law_reached_0, J__law_reached_0, eVar, hc]
  rw [filterMap_if] at h
  have l1 := (hi.more hx).few w
  rw [List.length_append] at l1
  have l2 : (made.map prD).length + (((srtP (glsP sch sto x)).filter fun y => !decide (y ∈ made)).map prD).length ≤ 16777216 := by rw [List.length_map, List.length_map]; omega
  simp only [Q7] at h ⊢
  rw [List.map_append]
  generalize ((srtP (glsP sch sto x)).filter fun y => !decide (y ∈ made)).map prD = F at *
  generalize made.map prD = M at *
  simp [turnD, ftName, L__law_reached_1, eVar, hg, wipeE, h, sExt, lstAt, optO, sizeLine_eq, l2, -List.map_map]
theorem len_prs (ps : List Pr) : biF .len [.lst (ps.map prD)] = .ok (.int (ps.length : Nat)) := by
  show R.ok (D.int ((ps.map prD).length : Nat)) = _
  rw [List.length_map]
theorem list_prs (ps : List Pr) : biF .list [.lst (ps.map prD)] = .ok (.lst (ps.map prD)) := rfl
theorem law_reached_ok {sch : List Knd} {sto : List Shf} (w : St sch sto) (few : (rowsP sch sto).length ≤ 60) (p : Pr) : φ__law_reached [schD sch, stoD sto, prD p] = .ok (.lst ((rchL sch sto p).map prD)) := by
  have hg := law_goals_ok w p
  have i0 : LI sch sto p (srtP (glsP sch sto p)) := ⟨srtP_nd _, fun x hx => .one (mem_srtP.mp hx), fun x hx => mem_srtP.mpr hx⟩
  obtain ⟨s', h1, made, x4, x5, rfl, hm, hcl⟩ := whl_run (gc := (den (.cmp .Lt (.var 4) (.bi .len (.cons (.var 3) .nil)))).t) (body := dS L__law_reached_0) (I := fun m s => ∃ (made : List Pr) (many : Nat) (x5 : Option D), s = Q7 sch sto p made (some (.int many)) x5 ∧ LI sch sto p made ∧ many ≤ made.length ∧ (many = made.length → ∀ x ∈ made, ∀ y ∈ glsP sch sto x, y ∈ made) ∧ m = (rowsP sch sto).length + 1 - many)
    (E := fun s => ∃ (made : List Pr) (x4 x5 : Option D), s = Q7 sch sto p made x4 x5 ∧ LI sch sto p made ∧ ∀ x ∈ made, ∀ y ∈ glsP sch sto x, y ∈ made) (fun m s ⟨made, many, x5, es, hi, hle, hcl, em⟩ => by
      subst es
      have hfew := hi.few w
      have hln := len_prs made
      by_cases hlt : many < made.length
      · right
        refine ⟨?_, ?_⟩
        · simp only [Q7]
          simp [eVar, hln, hlt, -List.map_map]
        · obtain ⟨s', h2, made', x5', rfl, hi', hpre, hdone⟩ := forD_run (f := prD) (xs := made) (ft := (tgd (.nm 5)).f) (body := dS L__law_reached_1) (s := Q7 sch sto p made (some (.int (made.length : Nat))) x5)
            (I := fun (pre : List Pr) (s : En) => ∃ (made' : List Pr) (x5 : Option D), s = Q7 sch sto p made' (some (.int (made.length : Nat))) x5 ∧ LI sch sto p made' ∧ (∃ more, made' = made ++ more) ∧ ∀ x ∈ pre, ∀ y ∈ glsP sch sto x, y ∈ made')
            ⟨made, x5, rfl, hi, ⟨[], by simp⟩, fun x hx => (nomatch hx)⟩ (fun pre a post s e ⟨made', x5', es, hi', ⟨more, hpre⟩, hdone⟩ => by
              subst es
              have ha : a ∈ made' := by rw [hpre]; exact List.mem_append_left _ (by rw [e]; simp)
              refine ⟨_, law_reached_1 w few hi' ha _ _, _, _, rfl, hi'.more ha, ⟨more ++ _, by rw [hpre, List.append_assoc]⟩, fun x hx y hy => ?_⟩
              rcases List.mem_append.mp hx with hx | hx
              · exact List.mem_append_left _ (hdone x hx y hy)
              · rw [List.mem_singleton.mp hx] at hy
                by_cases hm : y ∈ made'
                · exact List.mem_append_left _ hm
                · exact List.mem_append_right _ (List.mem_filter.mpr ⟨mem_srtP.mpr hy, by simp [hm]⟩))
          obtain ⟨more, hpre⟩ := hpre
          have hfew' := hi'.few w
          refine ⟨Q7 sch sto p made' (some (.int (made.length : Nat))) x5', _, ?_, ?_, made', made.length, x5', rfl, hi', by rw [hpre, List.length_append]; omega, fun el x hx y hy => ?_, rfl⟩
          · omega
          · have hli := list_prs made
            simp only [Q7] at h2 ⊢
            simp [L__law_reached_0, eVar, ftName, hln, hli, h2, -List.map_map]
          · have : more = [] := by
              rw [hpre, List.length_append] at el
              exact List.length_eq_zero_iff.mp (by omega)
            rw [this, List.append_nil] at hpre
            rw [hpre] at hx
            exact hdone x hx y hy
      · left
        refine ⟨?_, made, _, x5, rfl, hi, hcl (by omega)⟩
        simp only [Q7]
        simp [eVar, hln, hlt, -List.map_map])
    1000 ((rowsP sch sto).length + 1) (Q7 sch sto p (srtP (glsP sch sto p)) (some (.int 0)) none) (by omega) ⟨_, 0, none, rfl, i0, Nat.zero_le _, fun e x hx => by
      rw [List.length_eq_zero_iff.mp e.symm] at hx
      exact (nomatch hx), rfl⟩
  have hs := sorted_prs made
  rw [sort_rch w hm.nd fun x => ⟨hm.mr x, fun r => r.sub (M := fun x => x ∈ made) hm.p0 hcl⟩] at hs
  simp only [Q7] at h1
  unfold φ__law_reached runS ir__law_reached
  simp [eVar, ftName, hg, h1, hs, sizeLine_eq, -List.map_map]
/-! _law_rows -/
def V9 (sch : List Knd) (sto : List Shf) (m : List RV) (x3 x4 x5 x6 x7 x8 : Option D) : En := [some (schD sch), some (stoD sto), some (dicV m), x3, x4, x5, x6, x7, x8]
theorem rows_mid {sch : List Knd} {sto : List Shf} (w : Wh sch sto) {pre post : List (Knd × Shf)} {b : Knd × Shf} (e : sch.zip sto = pre ++ b :: post) {p2 post2 : List Rw} {r : Rw} (e2 : b.2.rows = p2 ++ r :: post2) : (b.1.1, r.key) ∉ (pre.flatMap kRV ++ p2.map fun r => ((b.1.1, r.key), r.vals)).map (·.1) := by
  have nd := rowsP_nd w
  rw [← rowsV_rows] at nd
  have ev : rowsV sch sto = (pre.flatMap kRV ++ p2.map fun r => ((b.1.1, r.key), r.vals)) ++ ((b.1.1, r.key), r.vals) :: (post2.map (fun r => ((b.1.1, r.key), r.vals)) ++ post.flatMap kRV) := by
    unfold rowsV
    rw [e, List.flatMap_append, List.flatMap_cons]
    have : kRV b = p2.map (fun r => ((b.1.1, r.key), r.vals)) ++ ((b.1.1, r.key), r.vals) :: post2.map (fun r => ((b.1.1, r.key), r.vals)) := by
      unfold kRV
      rw [e2, List.map_append, List.map_cons]
    rw [this]
    simp
  rw [ev, List.map_append, List.map_cons, List.nodup_append] at nd
  exact fun h => nd.2.2 _ h _ List.mem_cons_self rfl
theorem law_rows_ok {sch : List Knd} {sto : List Shf} (w : St sch sto) : φ__law_rows [schD sch, stoD sto] = .ok (dicV (rowsV sch sto)) := by
  obtain ⟨s', h1, x3, x4, x5, x6, x7, x8, rfl⟩ := forD_run (I := fun (pre : List (Knd × Shf)) (s : En) => ∃ x3 x4 x5 x6 x7 x8 : Option D, s = V9 sch sto (pre.flatMap kRV) x3 x4 x5 x6 x7 x8) (ft := (tgd (.tp (.cons (.tp (.cons (.nm 4) (.cons (.nm 5) .nil))) (.cons (.nm 3) .nil)))).f) (body := dS L__law_rows_0) (s := V9 sch sto [] none none none none none none)
    (f := fun q : Knd × Shf => D.tup [kndD q.1, shD q.2]) (xs := sch.zip sto) ⟨none, none, none, none, none, none, rfl⟩ (fun pre b post s e ⟨x3, x4, x5, x6, x7, x8, hi⟩ => by
      subst hi
      obtain ⟨s', h1, x6', x7', x8', rfl⟩ := forD_run (I := fun (p2 : List Rw) (s : En) => ∃ x6 x7 x8 : Option D, s = V9 sch sto (pre.flatMap kRV ++ p2.map fun r => ((b.1.1, r.key), r.vals)) (some (shD b.2)) (some (.str b.1.1)) (some (.tup (b.1.2.map fldD))) x6 x7 x8) (ft := (tgd (.tp (.cons (.nm 6) (.cons (.nm 7) (.cons (.nm 8) .nil))))).f) (body := dS L__law_rows_1) (s := V9 sch sto (pre.flatMap kRV) (some (shD b.2)) (some (.str b.1.1)) (some (.tup (b.1.2.map fldD))) x6 x7 x8)
        (f := rwD) (xs := b.2.rows) ⟨x6, x7, x8, by simp⟩ (fun p2 r post2 s e2 ⟨x6, x7, x8, hi⟩ => by
          subst hi
          have hn := rows_mid w.wh e e2
          have hput := put_rv (x := ((b.1.1, r.key), r.vals)) hn
          refine ⟨V9 sch sto (pre.flatMap kRV ++ (p2 ++ [r]).map fun r => ((b.1.1, r.key), r.vals)) (some (shD b.2)) (some (.str b.1.1)) (some (.tup (b.1.2.map fldD))) (some (.int r.key)) (some (.int r.ver)) (some (.tup r.vals)), ?_, _, _, _, rfl⟩
          have ea : pre.flatMap kRV ++ (p2 ++ [r]).map (fun r => ((b.1.1, r.key), r.vals)) = (pre.flatMap kRV ++ p2.map fun r => ((b.1.1, r.key), r.vals)) ++ [((b.1.1, r.key), r.vals)] := by simp
          rw [ea]
          have hl : (pre.flatMap kRV ++ p2.map fun r => ((b.1.1, r.key), r.vals)).length ≤ 1000 := by
            have := pre_len w e
            have e3 : (pre.flatMap kRV).length = (pre.flatMap kRows).length := by
              simp only [List.length_flatMap]
              congr 1
              refine List.map_congr_left fun q _ => ?_
              unfold kRV kRows
              rw [List.length_map, List.length_map]
            have l2 := congrArg List.length e2
            rw [List.length_append, List.length_cons] at l2
            have := w.rw b.2 (List.of_mem_zip (show (b.1, b.2) ∈ sch.zip sto by rw [e]; simp)).2
            rw [List.length_append, List.length_map, e3]
            omega
          simp only [V9, dicV]
          generalize pre.flatMap kRV ++ p2.map (fun r => ((b.1.1, r.key), r.vals)) = m at *
          have hput : putD (m.map fun x => prK x.1) (m.map rvD) [.inr b.1.1, .inl r.key] (.tup r.vals) = ((m ++ [((b.1.1, r.key), r.vals)]).map fun x => prK x.1, (m ++ [((b.1.1, r.key), r.vals)]).map rvD) := hput
          have hko := keyOf_two b.1.1 r.key
          have l3 : (m.map rvD).length < 16777216 := by rw [List.length_map]; omega
          generalize (m ++ [((b.1.1, r.key), r.vals)]).map (fun x => prK x.1) = K2 at *
          generalize (m ++ [((b.1.1, r.key), r.vals)]).map rvD = D2 at *
          generalize m.map (fun x => prK x.1) = K1 at *
          generalize m.map rvD = D1 at *
          simp [turnD, L__law_rows_1, ftName, eVar, rwD, sPut, dicAt, optO, hko, hput, l3, sizeLine_eq])
      refine ⟨V9 sch sto ((pre ++ [b]).flatMap kRV) (some (shD b.2)) (some (.str b.1.1)) (some (.tup (b.1.2.map fldD))) x6' x7' x8', ?_, _, _, _, _, _, _, rfl⟩
      have ea : (pre ++ [b]).flatMap kRV = pre.flatMap kRV ++ b.2.rows.map (fun r => ((b.1.1, r.key), r.vals)) := by rw [List.flatMap_append]; simp [kRV]
      rw [ea]
      simp only [V9] at h1 ⊢
      generalize dicV (pre.flatMap kRV ++ b.2.rows.map (fun r => ((b.1.1, r.key), r.vals))) = M2 at *
      generalize dicV (pre.flatMap kRV) = M1 at *
      simp only [shD] at h1 ⊢
      simp [turnD, L__law_rows_0, ftName, eVar, kndD, h1])
  have hz := zipL_map kndD shD sch sto
  have hg : (sch.zip sto).flatMap kRV = rowsV sch sto := rfl
  rw [hg] at h1
  unfold φ__law_rows runS ir__law_rows
  simp only [V9, schD, stoD, dicV, List.map_nil] at h1 ⊢
  simp [eVar, ftName, schD, stoD, sizeLine_eq, hz, h1, -List.map_map]
end Pu

end
section
open Hr Wk PySem
namespace Pu
/-! ### XF: root_rows, rows_in_rounds -/
def dicT (ks : List Pr) : D := .dic true (ks.map prK) (ks.map fun _ => D.bl true)
theorem setAll_t (x : Pr) : ∀ ks : List Pr, setAll (prK x) (.bl true) (ks.map prK) (ks.map fun _ => D.bl true) = ks.map fun _ => D.bl true
  | [] => rfl
  | k :: ks => by
    show (if prK k = prK x then D.bl true else D.bl true) :: setAll _ _ _ _ = _
    rw [setAll_t x ks]
    split <;> rfl
def addT (ks : List Pr) (x : Pr) : List Pr := if x ∈ ks then ks else ks ++ [x]
theorem mem_addT {ks : List Pr} {x y : Pr} : y ∈ addT ks x ↔ y ∈ ks ∨ y = x := by
  unfold addT
  split
  · rename_i h
    exact ⟨.inl, fun z => z.elim id fun e => by rw [e]; exact h⟩
  · simp
theorem addT_nd {ks : List Pr} {x : Pr} (h : ks.Nodup) : (addT ks x).Nodup := by
  unfold addT
  split
  · exact h
  · rename_i hx
    rw [List.nodup_append]
    exact ⟨h, by simp, fun a ha b hb => by rw [List.mem_singleton.mp hb]; exact fun z => hx (z ▸ ha)⟩
theorem put_t (ks : List Pr) (x : Pr) : putD (ks.map prK) (ks.map fun _ => D.bl true) (prK x) (.bl true) = ((addT ks x).map prK, (addT ks x).map fun _ => D.bl true) := by
  unfold putD addT
  by_cases h : x ∈ ks
  · rw [if_pos (List.any_eq_true.mpr ⟨prK x, List.mem_map.mpr ⟨x, h, rfl⟩, by simp⟩), if_pos h, setAll_t]
  · rw [if_neg, if_neg h]
    · simp
    · intro z
      obtain ⟨k, hk, q⟩ := List.any_eq_true.mp z
      obtain ⟨y, hy, rfl⟩ := List.mem_map.mp hk
      exact h (prK_inj (of_decide_eq_true q) ▸ hy)
theorem look_t (x : Pr) : ∀ ks : List Pr, (lookK (ks.map prK) (ks.map fun _ => D.bl true) (prK x)).isSome = decide (x ∈ ks)
  | [] => rfl
  | k :: ks => by
    show (if prK k = prK x then some (D.bl true) else lookK (ks.map prK) (ks.map fun _ => D.bl true) (prK x)).isSome = _
    by_cases h : prK k = prK x
    · rw [if_pos h, prK_inj h]; simp
    · rw [if_neg h, look_t x ks]
      have : x ≠ k := fun z => h (by rw [z])
      simp [this]
theorem in_t (x : Pr) (ks : List Pr) : dIn (prD x) (dicT ks) = .ok (decide (x ∈ ks)) := by
  show R.of ((keyOf true (prD x)).map fun k => (lookK (ks.map prK) (ks.map fun _ => D.bl true) k).isSome) = _
  have : keyOf true (prD x) = some (prK x) := rfl
  rw [this, Option.map_some, look_t]
  rfl
def led1 (sch : List Knd) (sto : List Shf) (p : Pr) : List Pr := (srtP (glsP sch sto p)).filter fun y => !decide (y = p)
def ledP (sch : List Knd) (sto : List Shf) : List Pr := (srtP (rowsP sch sto)).flatMap (led1 sch sto)
def T5 (sch : List Knd) (sto : List Shf) (ks : List Pr) (x3 x4 : Option D) : En := [some (schD sch), some (stoD sto), some (dicT ks), x3, x4]
theorem rows_in {sch : List Knd} {sto : List Shf} (w : St sch sto) (few : (rowsP sch sto).length ≤ 60) {ks : List Pr} (nd : ks.Nodup) (h : ∀ x ∈ ks, x ∈ rowsP sch sto) : ks.length ≤ 1000 := by
  have := nodup_le nd h
  omega
theorem sortd_rows {sch : List Knd} {sto : List Shf} (w : St sch sto) (few : (rowsP sch sto).length ≤ 60) (hok : ∀ g ∈ sch.map (·.1), strOkP (g, 0) = true) : biF .sortd [dicV (rowsV sch sto)] = .ok (.lst ((srtP (rowsP sch sto)).map prD)) := by
  have ek : ((rowsV sch sto).map fun x => prK x.1) = (rowsP sch sto).map prK := by rw [← rowsV_rows, List.map_map]; rfl
  show dSortD (.dic true ((rowsV sch sto).map fun x => prK x.1) ((rowsV sch sto).map rvD)) = _
  rw [ek]
  show (match prsK ((rowsP sch sto).map prK) with
    | some ps => if ps.length < 64 ∧ ps.all strOkP = true then R.ok (D.lst ((isort lePr ps).map prD)) else .stuck
    | none => .stuck) = _
  have hall : (rowsP sch sto).all strOkP = true := by
    rw [List.all_eq_true]
    intro p hp
    obtain ⟨q, hq, r, _, rfl⟩ := mem_rowsP.mp hp
    exact hok _ (List.mem_map.mpr ⟨q.1, (List.of_mem_zip (show (q.1, q.2) ∈ _ from hq)).1, rfl⟩)
  rw [prsK_map]
  simp only
  rw [if_pos ⟨by omega, hall⟩, isortP_srt (rowsP_nd w.wh) fun x => Iff.rfl]
end Pu

end
section
open Hr Wk PySem
namespace Pu
/-! ### XG: links_to the other way about; counts -/
def toPr : D → Pr
  | .tup [.str a, .int k, _] => (a, k)
  | _ => ("", 0)
def cut2 : D → D
  | .tup [a, b, _] => .tup [a, b]
  | d => d
theorem cut2_tri {d : D} (h : Tri d) : cut2 d = prD (toPr d) := by obtain ⟨a, k, b, rfl⟩ := h; rfl
theorem mem_allL {nm : Str} {key : Int} {sch : List Knd} {sto : List Shf} {q : Knd × Shf} (hq : q ∈ sch.zip sto) {r : Rw} (hr : r ∈ q.2.rows) {f : Fld} {m : Bool} {ru : Str} {i : Nat} (hf : q.1.2[i]? = some f) (e : f.2 = .lnk nm m ru) (hv : r.vals[i]? = some (.int key)) : D.tup [.str q.1.1, .int r.key, .str f.1] ∈ allL nm key sch sto := by
  refine List.mem_flatMap.mpr ⟨q, hq, List.mem_flatMap.mpr ⟨r, hr, List.mem_filterMap.mpr ⟨(f, i), ?_, ?_⟩⟩⟩
  · rw [List.mem_zipIdx_iff_getElem?]; exact hf
  · show (match f.2 with | .lnk g _ _ => if (g == nm && isK key (r.vals[i]?)) = true then some (D.tup [.str q.1.1, .int r.key, .str f.1]) else none | _ => none) = _
    rw [e, hv]
    simp [isK]
theorem back_in {sch : List Knd} {sto : List Shf} (w : St sch sto) {p y : Pr} (h : y ∈ glsP sch sto p) : p ∈ (isort leD (allL y.1 y.2 sch sto)).map toPr := by
  have hp : p ∈ rowsP sch sto := by
    by_cases hp : p ∈ rowsP sch sto
    · exact hp
    · rw [glsP_none hp] at h; cases h
  obtain ⟨q, hq, r, hr, rfl⟩ := mem_rowsP.mp hp
  rw [glsP_at w.wh hq hr] at h
  obtain ⟨f, d, m, ru, hm, e1, e2⟩ := lk1_mem.mp h
  obtain ⟨i, h1, h2⟩ := zip_mem_at hm
  simp only at h1 h2
  rw [e2] at h2
  exact List.mem_map.mpr ⟨_, (isort_perm _).mem_iff.mpr (mem_allL hq hr h1 e1 h2), rfl⟩
theorem links_cut {sch : List Knd} {sto : List Shf} (nm : Str) (key : Int) {t : D → R (Option D)} (ht : ∀ (a : Str) (k : Int) (b : Str), t (.tup [.str a, .int k, .str b]) = .ok (some (.tup [.str a, .int k]))) : lcA t (isort leD (allL nm key sch sto)) [] = .ok (((isort leD (allL nm key sch sto)).map toPr).map prD) := by
  have tri : ∀ d ∈ isort leD (allL nm key sch sto), Tri d := fun d hd => tri_all d ((isort_perm _).mem_iff.mp hd)
  have h := lcA_over (f := fun d : D => d) (t := t) (g := fun d => some (cut2 d)) (xs := isort leD (allL nm key sch sto)) fun d hd => by
    obtain ⟨a, k, b, rfl⟩ := tri d hd
    exact ht a k b
  rw [fm_some, List.map_id'] at h
  rw [h, List.map_map]
  congr 1
  exact List.map_congr_left fun d hd => cut2_tri (tri d hd)
theorem sum_ints (xs : List Int) : biF .sum [.lst (xs.map D.int)] = .ok (.int xs.sum) := by
  show R.of ((intsD (xs.map D.int)).map fun is => D.int is.sum) = _
  rw [intsD_map]
  rfl
theorem sum_nat : ∀ xs : List Nat, (xs.map fun n : Nat => (n : Int)).sum = (xs.sum : Nat)
  | [] => rfl
  | x :: xs => by
    rw [List.map_cons, List.sum_cons, sum_nat xs, List.sum_cons]
    omega
theorem rows_count {sch : List Knd} {sto : List Shf} (w : St sch sto) : (((sch.zip sto).map fun p => ((p.2.rows.length : Nat) : Int)).sum) = ((srtP (rowsP sch sto)).length : Nat) := by
  have e1 : (srtP (rowsP sch sto)).length = (rowsP sch sto).length := by
    rw [← isortP_srt (rowsP_nd w.wh) fun x => Iff.rfl]
    exact (isortP_perm _).length_eq
  have e2 : (rowsP sch sto).length = ((sch.zip sto).map fun p => p.2.rows.length).sum := by
    unfold rowsP
    rw [List.length_flatMap]
    congr 1
    exact List.map_congr_left fun q _ => by rw [List.length_map]
  have := sum_nat ((sch.zip sto).map fun p => p.2.rows.length)
  rw [List.map_map] at this
  rw [e1, e2, ← this]
  rfl
theorem eq_lst (ps : List Pr) : dEq (.lst (ps.map prD)) (.lst (ps.map prD)) = .ok true := eq_self (n := 2) (prs_flat ps) (by decide)
end Pu

end
section
open Hr Wk PySem
namespace Pu
/-! ### YA: the store of some rows alone -/
def keep1 (K : List Pr) (q : Knd × Shf) : Shf := ⟨q.2.num, q.2.rows.filter fun r => decide ((q.1.1, r.key) ∈ K)⟩
def keepP (sch : List Knd) (sto : List Shf) (K : List Pr) : List Shf := (sch.zip sto).map (keep1 K)
theorem keep_len {sch : List Knd} {sto : List Shf} (hl : sto.length = sch.length) (K : List Pr) : (keepP sch sto K).length = sch.length := by
  unfold keepP
  rw [List.length_map, List.length_zip]
  omega
theorem zip_keep {sch : List Knd} {sto : List Shf} (K : List Pr) : sch.zip (keepP sch sto K) = (sch.zip sto).map fun q => (q.1, keep1 K q) := by
  unfold keepP
  induction sch generalizing sto with
  | nil => rfl
  | cons k sch ih =>
    cases sto with
    | nil => rfl
    | cons s sto =>
      show (k, keep1 K (k, s)) :: sch.zip ((sch.zip sto).map (keep1 K)) = _
      rw [ih]
      rfl
theorem rows_keep {sch : List Knd} {sto : List Shf} (K : List Pr) : rowsP sch (keepP sch sto K) = (rowsP sch sto).filter fun p => decide (p ∈ K) := by
  unfold rowsP
  rw [zip_keep, List.flatMap_map, List.filter_flatMap]
  congr 1
  funext q
  show ((q.2.rows.filter fun r => decide ((q.1.1, r.key) ∈ K)).map fun r => (q.1.1, r.key)) = _
  rw [List.filter_map]
  rfl
theorem mem_rows_keep {sch : List Knd} {sto : List Shf} {K : List Pr} {p : Pr} : p ∈ rowsP sch (keepP sch sto K) ↔ p ∈ rowsP sch sto ∧ p ∈ K := by
  rw [rows_keep, List.mem_filter, decide_eq_true_iff]
theorem keep_congr {sch : List Knd} {sto : List Shf} {K K' : List Pr} (h : ∀ x ∈ rowsP sch sto, x ∈ K ↔ x ∈ K') : keepP sch sto K = keepP sch sto K' := by
  unfold keepP
  refine List.map_congr_left fun q hq => ?_
  unfold keep1
  congr 1
  refine List.filter_congr fun r hr => ?_
  exact decide_eq_decide.mpr (h _ (mem_rowsP.mpr ⟨q, hq, r, hr, rfl⟩))
theorem keep_all {sch : List Knd} {sto : List Shf} (hl : sto.length = sch.length) {K : List Pr} (h : ∀ x ∈ rowsP sch sto, x ∈ K) : keepP sch sto K = sto := by
  have e : (sch.zip sto).map (·.2) = sto := List.map_snd_zip (by omega)
  refine Eq.trans ?_ e
  unfold keepP
  refine List.map_congr_left fun q hq => ?_
  unfold keep1
  have : (q.2.rows.filter fun r => decide ((q.1.1, r.key) ∈ K)) = q.2.rows := List.filter_eq_self.mpr fun r hr => decide_eq_true (h _ (mem_rowsP.mpr ⟨q, hq, r, hr, rfl⟩))
  rw [this]
structure Clo (sch : List Knd) (sto : List Shf) (K : List Pr) : Prop where
  cl : ∀ x ∈ K, ∀ y ∈ glsP sch sto x, y ∈ K
theorem keep_st {sch : List Knd} {sto : List Shf} (w : St sch sto) {K : List Pr} (c : Clo sch sto K) : St sch (keepP sch sto K) := by
  have hl := keep_len w.wh.len K
  refine ⟨⟨w.wh.nd, hl, fun p hp => ?_⟩, w.sc, fun sh hsh => ?_⟩
  · rw [zip_keep] at hp
    obtain ⟨q, hq, rfl⟩ := List.mem_map.mp hp
    have s := w.wh.sh q hq
    have sub : List.Sublist (q.2.rows.filter fun r => decide ((q.1.1, r.key) ∈ K)) q.2.rows := List.filter_sublist
    refine ⟨s.num, s.pw.sublist (sub.map _), fun r hr => s.rng r (sub.subset hr), fun r hr => ?_⟩
    have hr0 := sub.subset hr
    have hk : (q.1.1, r.key) ∈ K := of_decide_eq_true (List.mem_filter.mp hr).2
    have v := s.val r hr0
    refine ⟨v.1, fun p hp => ?_⟩
    have vp := v.2 p hp
    obtain ⟨⟨fnm, srt⟩, d⟩ := p
    cases srt with
    | num => exact vp
    | txt => exact vp
    | lnk g m ru =>
      rcases vp with z | ⟨k, hk2, e⟩
      · exact .inl z
      · refine .inr ⟨k, ?_, e⟩
        have hkd : q.1 ∈ sch := (List.of_mem_zip (show (q.1, q.2) ∈ _ from hq)).1
        have hg : g ∈ sch.map (·.1) := w.sc.gl q.1 hkd _ (List.of_mem_zip hp).1 g rfl
        have hin : (g, k) ∈ glsP sch sto (q.1.1, r.key) := by
          rw [glsP_at w.wh hq hr0]
          exact lk1_mem.mpr ⟨_, d, m, ru, hp, rfl, e⟩
        rw [keysAt_rowG w.wh.nd hl hg, mem_rows_keep]
        exact ⟨gls_rows w hin, c.cl _ hk _ hin⟩
  · unfold keepP at hsh
    obtain ⟨q, hq, rfl⟩ := List.mem_map.mp hsh
    have := w.rw q.2 (List.of_mem_zip (show (q.1, q.2) ∈ _ from hq)).2
    exact Nat.le_trans (List.length_filter_le ..) this
theorem gls_keep {sch : List Knd} {sto : List Shf} (w : St sch sto) {K : List Pr} (c : Clo sch sto K) {p : Pr} (hp : p ∈ K) : glsP sch (keepP sch sto K) p = glsP sch sto p := by
  by_cases h : p ∈ rowsP sch sto
  · obtain ⟨q, hq, r, hr, rfl⟩ := mem_rowsP.mp h
    rw [glsP_at w.wh hq hr]
    have hq2 : (q.1, keep1 K q) ∈ sch.zip (keepP sch sto K) := by rw [zip_keep]; exact List.mem_map.mpr ⟨q, hq, rfl⟩
    exact glsP_at (keep_st w c).wh hq2 (r := r) (List.mem_filter.mpr ⟨hr, decide_eq_true hp⟩)
  · rw [glsP_none h, glsP_none fun z => h (mem_rows_keep.mp z).1]
theorem rch_keep {sch : List Knd} {sto : List Shf} (w : St sch sto) {K : List Pr} (c : Clo sch sto K) {p q : Pr} (hp : p ∈ K) : Rch sch (keepP sch sto K) p q ↔ Rch sch sto p q := by
  have key : ∀ q, Rch sch sto p q → Rch sch (keepP sch sto K) p q ∧ q ∈ K := fun q h => by
    induction h with
    | one h => exact ⟨.one (by rw [gls_keep w c hp]; exact h), c.cl _ hp _ h⟩
    | more _ h ih => exact ⟨.more ih.1 (by rw [gls_keep w c ih.2]; exact h), c.cl _ ih.2 _ h⟩
  have key2 : ∀ q, Rch sch (keepP sch sto K) p q → Rch sch sto p q ∧ q ∈ K := fun q h => by
    induction h with
    | one h => rw [gls_keep w c hp] at h; exact ⟨.one h, c.cl _ hp _ h⟩
    | more _ h ih => rw [gls_keep w c ih.2] at h; exact ⟨.more ih.1 h, c.cl _ ih.2 _ h⟩
  exact ⟨fun h => (key2 q h).1, fun h => (key q h).1⟩
theorem srtP_congr {ps qs : List Pr} (h : ∀ x, x ∈ ps ↔ x ∈ qs) : srtP ps = srtP qs := srtP_eq (srtP_pw ps) (srtP_nd ps) fun x => mem_srtP.trans (h x)
theorem rchL_keep {sch : List Knd} {sto : List Shf} (w : St sch sto) {K : List Pr} (c : Clo sch sto K) {p : Pr} (hp : p ∈ K) : rchL sch (keepP sch sto K) p = rchL sch sto p := by
  have h1 : ∀ x, x ∈ rchL sch (keepP sch sto K) p ↔ x ∈ rchL sch sto p := fun x => by rw [mem_rchL (keep_st w c), mem_rchL w, rch_keep w c hp]
  have h2 := h1
  unfold rchL at h1 ⊢
  exact srtP_congr fun x => by rw [← mem_srtP, ← mem_srtP (ps := (rowsP sch sto).filter _)]; exact h1 x
/-- some rows and what they reach -/
noncomputable def allK (sch : List Knd) (sto : List Shf) (rows : List Pr) : List Pr := rows.flatMap fun p => p :: rchL sch sto p
theorem mem_allK {sch : List Knd} {sto : List Shf} (w : St sch sto) {rows : List Pr} {x : Pr} : x ∈ allK sch sto rows ↔ ∃ p ∈ rows, x = p ∨ Rch sch sto p x := by
  unfold allK
  rw [List.mem_flatMap]
  constructor
  · rintro ⟨p, hp, h⟩
    exact ⟨p, hp, (List.mem_cons.mp h).imp id (mem_rchL w).mp⟩
  · rintro ⟨p, hp, h⟩
    exact ⟨p, hp, List.mem_cons.mpr (h.imp id (mem_rchL w).mpr)⟩
theorem clo_all {sch : List Knd} {sto : List Shf} (w : St sch sto) (rows : List Pr) : Clo sch sto (allK sch sto rows) := ⟨fun x hx y hy => by
  obtain ⟨p, hp, h⟩ := (mem_allK w).mp hx
  refine (mem_allK w).mpr ⟨p, hp, .inr ?_⟩
  rcases h with rfl | h
  · exact .one hy
  · exact .more h hy⟩
theorem keep_keep {sch : List Knd} {sto : List Shf} {K K' : List Pr} (h : ∀ x ∈ rowsP sch sto, x ∈ K → x ∈ K') (hl : sto.length = sch.length) : keepP sch (keepP sch sto K) K' = keepP sch sto K :=
  keep_all (keep_len hl K) fun x hx => h x (mem_rows_keep.mp hx).1 (mem_rows_keep.mp hx).2
theorem find_keep {K : List Pr} {nm : Str} {key : Int} (h : (nm, key) ∈ K) : ∀ l : List Rw, (l.filter fun r => decide ((nm, r.key) ∈ K)).find? (fun r => r.key == key) = l.find? fun r => r.key == key
  | [] => rfl
  | r :: l => by
    rw [List.find?_cons]
    by_cases e : r.key = key
    · have hk : decide ((nm, r.key) ∈ K) = true := by rw [e]; exact decide_eq_true h
      rw [List.filter_cons_of_pos (by exact hk), List.find?_cons]
      simp [e]
    · have e' : (r.key == key) = false := beq_eq_false_iff_ne.mpr e
      rw [e']
      by_cases hk : decide ((nm, r.key) ∈ K) = true
      · rw [List.filter_cons_of_pos (by exact hk), List.find?_cons, e']
        exact find_keep h l
      · rw [List.filter_cons_of_neg (by exact hk)]
        exact find_keep h l
end Pu

end
section
open Hr Wk PySem
namespace Pu
/-! ### YB: kept_from -/
def KF (sch : List Knd) (sto : List Shf) (d : D) (kept : List Pr) (x4 x5 x6 x7 x8 : Option D) : En := [some (schD sch), some (stoD sto), some d, some (.lst (kept.map prD)), x4, x5, x6, x7, x8, none]
theorem rchL_len {sch : List Knd} {sto : List Shf} (w : St sch sto) (few : (rowsP sch sto).length ≤ 60) (p : Pr) : (rchL sch sto p).length ≤ 60 := by
  have := nodup_le (l := rchL sch sto p) (m := rowsP sch sto) (by unfold rchL; exact srtP_nd _) fun x hx => ((mem_rchL w).mp hx).row w
  omega
theorem kept_from_ok {sch : List Knd} {sto : List Shf} (w : St sch sto) (few : (rowsP sch sto).length ≤ 60) {rows : List Pr} (hr : ∀ p ∈ rows, p ∈ rowsP sch sto) (hl : rows.length ≤ 1000) {d : D} (hd : dItems d = .ok (rows.map prD)) : φ_kept_from [schD sch, stoD sto, d] = .ok (stoD (keepP sch sto (allK sch sto rows))) := by
  obtain ⟨s', h1, x5, x6, rfl⟩ := forD_run (I := fun (pre : List Pr) (s : En) => ∃ x5 x6, s = KF sch sto d (allK sch sto pre) none x5 x6 none none) (ft := (tgd (.tp (.cons (.nm 5) (.cons (.nm 6) .nil)))).f) (body := dS L_kept_from_0) (f := prD) (xs := rows) (s := KF sch sto d [] none none none none none) ⟨none, none, rfl⟩ (fun pre p post s e ⟨x5, x6, es⟩ => by
    subst es
    have hp : p ∈ rowsP sch sto := hr p (by rw [e]; simp)
    have hrr := reached_ok w few hp
    have l0 := rchL_len w few p
    have hadd : dAdd (.lst [.tup [.str p.1, .int p.2]]) (.lst ((rchL sch sto p).map prD)) = .ok (.lst ((p :: rchL sch sto p).map prD)) := add_l (by rw [List.length_map]; simp; omega)
    have l1 : (allK sch sto pre).length ≤ 61 * pre.length := flat_lenP (g := fun p => p :: rchL sch sto p) (n := 61) (l := pre) fun a _ => by rw [List.length_cons]; have := rchL_len w few a; omega
    have l2 : pre.length ≤ 1000 := by
      have := congrArg List.length e
      rw [List.length_append, List.length_cons] at this
      omega
    have l3 : ((allK sch sto pre).map prD).length + ((p :: rchL sch sto p).map prD).length ≤ 16777216 := by rw [List.length_map, List.length_map, List.length_cons]; omega
    refine ⟨KF sch sto d (allK sch sto (pre ++ [p])) none (some (.str p.1)) (some (.int p.2)) none none, ?_, _, _, rfl⟩
    have ea : allK sch sto (pre ++ [p]) = allK sch sto pre ++ (p :: rchL sch sto p) := by unfold allK; rw [List.flatMap_append]; simp
    rw [ea]
    simp only [KF]
    rw [List.map_append]
    generalize (p :: rchL sch sto p).map prD = P at *
    generalize (allK sch sto pre).map prD = Q at *
    have hpd : prD p = .tup [.str p.1, .int p.2] := rfl
    rw [hpd]
    simp [turnD, ftName, L_kept_from_0, eVar, hrr, hadd, sExt, lstAt, optO, sizeLine_eq, l3, -List.map_map])
  have h2' := forD_run (I := fun (pre : List (Knd × Shf)) (s : En) => ∃ x5 x6 x7 x8, s = KF sch sto d (allK sch sto rows) (some (.lst ((pre.map (keep1 (allK sch sto rows))).map shD))) x5 x6 x7 x8) (ft := (tgd (.nm 5)).f) (body := dS L_kept_from_1) (f := fun q : Knd × Shf => D.str q.1.1) (xs := sch.zip sto) (s := KF sch sto d (allK sch sto rows) (some (.lst [])) x5 x6 none none) ⟨x5, x6, none, none, rfl⟩ (fun pre b post s e ⟨x5, x6, x7, x8, es⟩ => by
    subst es
    have hb : b ∈ sch.zip sto := by rw [e]; simp
    obtain ⟨j, a1, a2⟩ := zip_mem_at hb
    have hs := shelf_ok w.ws.st.ss a1 a2
    have hpl : pre.length ≤ 8 := by
      have := congrArg List.length e
      rw [List.length_zip, List.length_append, List.length_cons] at this
      have := w.sc.n8
      omega
    have hc := lcA_over (f := rwD) (t := lcT (tgd (.nm 9)).f (den J_kept_from_0).t (den E_kept_from_0).v (KF sch sto d (allK sch sto rows) (some (.lst ((pre.map (keep1 (allK sch sto rows))).map shD))) (some (.str b.1.1)) x6 (some (.int b.2.num)) (some (.tup (b.2.rows.map rwD))))) (g := fun r : Rw => if decide ((b.1.1, r.key) ∈ allK sch sto rows) then some (rwD r) else none) (xs := b.2.rows) fun r _ => by
      have hi : dIn (.tup [.str b.1.1, .int r.key]) (.lst ((allK sch sto rows).map prD)) = .ok (decide ((b.1.1, r.key) ∈ allK sch sto rows)) := in_prs (b.1.1, r.key) _
      simp only [KF]
      cases hd : decide ((b.1.1, r.key) ∈ allK sch sto rows) with
      | true => rw [hd] at hi; simp [lcT, ftName, E_kept_from_0, J_kept_from_0, eVar, rwD, hi, sizeLine_eq]
      | false => rw [hd] at hi; simp [lcT, ftName, E_kept_from_0, J_kept_from_0, eVar, rwD, hi, sizeLine_eq]
    rw [filterMap_if] at hc
    have htu : biF .tuple [.lst ((b.2.rows.filter fun r => decide ((b.1.1, r.key) ∈ allK sch sto rows)).map rwD)] = .ok (.tup ((b.2.rows.filter fun r => decide ((b.1.1, r.key) ∈ allK sch sto rows)).map rwD)) := rfl
    refine ⟨KF sch sto d (allK sch sto rows) (some (.lst (((pre ++ [b]).map (keep1 (allK sch sto rows))).map shD))) (some (.str b.1.1)) x6 (some (.int b.2.num)) (some (.tup (b.2.rows.map rwD))), ?_, _, _, _, _, rfl⟩
    have ea : ((pre ++ [b]).map (keep1 (allK sch sto rows))).map shD = (pre.map (keep1 (allK sch sto rows))).map shD ++ [.tup [.int b.2.num, .tup ((b.2.rows.filter fun r => decide ((b.1.1, r.key) ∈ allK sch sto rows)).map rwD)]] := by
      rw [List.map_append, List.map_append]; rfl
    rw [ea]
    have l4 : ((pre.map (keep1 (allK sch sto rows))).map shD).length < 16777216 := by rw [List.length_map, List.length_map]; omega
    simp only [KF] at hc ⊢
    generalize (pre.map (keep1 (allK sch sto rows))).map shD = P at *
    generalize (b.2.rows.filter fun r => decide ((b.1.1, r.key) ∈ allK sch sto rows)).map rwD = Q at *
    generalize (allK sch sto rows).map prD = KK at *
    simp only [shD] at hs
    simp [turnD, ftName, L_kept_from_1, eVar, hs, wipeE, hc, htu, lstAt, optO, sizeLine_eq, l4, -List.map_map])
  obtain ⟨s2, h2, y5, y6, y7, y8, rfl⟩ := h2'
  have hn := kind_names_ok sch
  rw [names_zip w.wh.len] at hn
  have htu : ∀ l : List D, biF .tuple [.lst l] = .ok (.tup l) := fun _ => rfl
  have ek : (sch.zip sto).map (keep1 (allK sch sto rows)) = keepP sch sto (allK sch sto rows) := rfl
  rw [ek] at h2
  have ea : allK sch sto [] = [] := rfl
  simp only [KF, ea, List.map_nil] at h1 h2
  simp only [stoD] at *
  unfold φ_kept_from runS ir_kept_from
  generalize (allK sch sto rows).map prD = KK at *
  simp [eVar, ftName, hd, h1, hn, h2, htu, sizeLine_eq, -List.map_map]
theorem next_ok {sch : List Knd} {sto : List Shf} (w : SS sch sto) {j : Nat} {kd : Knd} {sh : Shf} (h1 : sch[j]? = some kd) (h2 : sto[j]? = some sh) : φ_next_key [schD sch, stoD sto, .str kd.1] = .ok (.int sh.num) := by
  have hs := shelf_ok w h1 h2
  simp only [shD] at hs
  unfold φ_next_key runS ir_next_key
  simp [eVar, hs]
theorem lenset_prs {ps : List Pr} (h : (nubP ps).length < 63) : dLenSet (.lst (ps.map prD)) = .ok (.int ((nubP ps).length : Nat)) := by
  cases ps with
  | nil => rfl
  | cons p ps =>
    have e : dLenSet (.lst ((p :: ps).map prD)) = match prsD ((p :: ps).map prD) with
      | some ps => R.of (if (nubP ps).length < 63 then some (D.int ((nubP ps).length : Nat)) else none)
      | none => .stuck := rfl
    rw [e, prsD_map]
    simp only
    rw [if_pos h]
    rfl
end Pu

end
section
open Hr Wk PySem
namespace Pu
/-! ### YC: k15, the law -/
theorem cutl_to (xs : List D) (k : Nat) : dSl (.lst xs) none (some (k : Int)) = .ok (.lst (xs.take k)) := by
  show R.ok (D.lst (cutD xs none (some (k : Int)))) = _
  unfold cutD
  rw [HT.sIx_none, HT.sIx_nat, List.drop_zero, Nat.sub_zero, List.take_eq_take_iff.mpr]
  omega
/-- the rows that are drawn -/
def drw (c : Nat → Int) (rows : List Pr) : List Pr := (rows.zipIdx.filter fun p => c p.2 == 0).map (·.1)
theorem drw_mem {c : Nat → Int} {rows : List Pr} {x : Pr} (h : x ∈ drw c rows) : x ∈ rows := by
  obtain ⟨p, hp, rfl⟩ := List.mem_map.mp h
  have := (List.mem_filter.mp hp).1
  obtain ⟨a, i⟩ := p
  exact List.mem_of_getElem? (List.mem_zipIdx_iff_getElem?.mp this)
theorem drw_len (c : Nat → Int) (rows : List Pr) : (drw c rows).length ≤ rows.length := by
  unfold drw
  rw [List.length_map]
  refine Nat.le_trans (List.length_filter_le ..) ?_
  rw [List.length_zipIdx]
  exact Nat.le_refl _
def K15 (ns : List Int) (sch : List Knd) (sto mde : List Shf) (S : List Pr) (kept : Option D) (x7 due x9 x10 x11 x12 x13 : Option D) : En := [some (A ns), some (schD sch), some (stoD sto), some (.lst ((srtP (rowsP sch sto)).map prD)), some (.lst (S.map prD)), some (stoD mde), kept, x7, due, x9, x10, x11, x12, x13, none]
theorem keptM {sch : List Knd} {sto : List Shf} (w : St sch sto) (S : List Pr) (x : Pr) : x ∈ S ++ S.flatMap (rchL sch sto) ↔ x ∈ allK sch sto S := by
  rw [mem_allK w, List.mem_append, List.mem_flatMap]
  constructor
  · rintro (h | ⟨p, hp, h⟩)
    · exact ⟨x, h, .inl rfl⟩
    · exact ⟨p, hp, .inr ((mem_rchL w).mp h)⟩
  · rintro ⟨p, hp, rfl | h⟩
    · exact .inl hp
    · exact .inr ⟨p, hp, (mem_rchL w).mpr h⟩
theorem law15_2 (ns : List Int) {sch : List Knd} {sto : List Shf} (w : St sch sto) (few : (rowsP sch sto).length ≤ 60) {S : List Pr} (hS : ∀ p ∈ S, p ∈ rowsP sch sto) {p : Pr} (hp : p ∈ S) (kept x7 due x9 x10 x11 x12 x13 : Option D) :
    turnD (tgd (.tp (.cons (.nm 9) (.cons (.nm 11) .nil)))).f (dS L_law_2) (prD p) (K15 ns sch sto (keepP sch sto (allK sch sto S)) S kept x7 due x9 x10 x11 x12 x13) = .nx (K15 ns sch sto (keepP sch sto (allK sch sto S)) S kept x7 due (some (.str p.1)) x10 (some (.int p.2)) x12 x13) := by
  have c := clo_all w S
  have w2 := keep_st w c
  have hpK : p ∈ allK sch sto S := (mem_allK w).mpr ⟨p, hp, .inl rfl⟩
  have few2 : (rowsP sch (keepP sch sto (allK sch sto S))).length ≤ 60 := by rw [rows_keep]; exact Nat.le_trans (List.length_filter_le ..) few
  have r1 := reached_ok w few (hS p hp)
  have r2 := reached_ok w2 few2 (p := p) (mem_rows_keep.mpr ⟨hS p hp, hpK⟩)
  rw [rchL_keep w c hpK] at r2
  have e1 := eq_lst (rchL sch sto p)
  obtain ⟨q, hq, r, hr, e⟩ := mem_rowsP.mp (hS p hp)
  obtain ⟨j, a1, a2⟩ := zip_mem_at hq
  have hq2 : (q.1, keep1 (allK sch sto S) q) ∈ sch.zip (keepP sch sto (allK sch sto S)) := by rw [zip_keep]; exact List.mem_map.mpr ⟨q, hq, rfl⟩
  obtain ⟨j2, b1, b2⟩ := zip_mem_at hq2
  have i1 := row_in_ok w.ws.st.ss a1 a2 r.key
  have i2 := row_in_ok w2.ws.st.ss b1 b2 r.key
  have hk : (q.1.1, r.key) ∈ allK sch sto S := by rw [e]; exact hpK
  have hf : (keep1 (allK sch sto S) q).rows.find? (fun x => x.key == r.key) = some r := by
    show (q.2.rows.filter fun r => decide ((q.1.1, r.key) ∈ allK sch sto S)).find? (fun x => x.key == r.key) = _
    rw [find_keep hk]
    exact find_row (keys_pw (w.wh.sh q hq)) hr
  rw [find_row (keys_pw (w.wh.sh q hq)) hr] at i1
  simp only at i1 i2
  rw [hf] at i2
  simp only at i2
  have v := (w.wh.sh q hq).val r hr
  have e2 : dEq (.tup [.int r.ver, .tup r.vals]) (.tup [.int r.ver, .tup r.vals]) = .ok true := eq_self (n := 2) (by
    show (true && (flats 0 r.vals && true)) = true
    rw [flats_of fun d hd => ?_]; · rfl
    have := v.smp d hd
    cases this <;> rfl) (by decide)
  subst e
  simp only at r1 r2 e1
  simp only [K15]
  have hpd : prD (q.1.1, r.key) = .tup [.str q.1.1, .int r.key] := rfl
  rw [hpd]
  simp [turnD, ftName, L_law_2, eVar, r1, r2, e1, i1, i2, e2, -List.map_map]
theorem law15_3 (ns : List Int) {sch : List Knd} {sto : List Shf} (w : St sch sto) {S : List Pr} {q : Knd × Shf} (hq : q ∈ sch.zip sto) (kept x7 due x9 x10 x11 x12 x13 : Option D) :
    turnD (tgd (.tp (.cons (.nm 9) (.cons (.nm 12) .nil)))).f (dS L_law_3) (.tup [.str q.1.1, .int 0]) (K15 ns sch sto (keepP sch sto (allK sch sto S)) S kept x7 due x9 x10 x11 x12 x13) = .nx (K15 ns sch sto (keepP sch sto (allK sch sto S)) S kept x7 due (some (.str q.1.1)) x10 x11 (some (.int 0)) (some (.int q.2.num))) := by
  have w2 := keep_st w (clo_all w S)
  obtain ⟨j, a1, a2⟩ := zip_mem_at hq
  have hq2 : (q.1, keep1 (allK sch sto S) q) ∈ sch.zip (keepP sch sto (allK sch sto S)) := by rw [zip_keep]; exact List.mem_map.mpr ⟨q, hq, rfl⟩
  obtain ⟨j2, b1, b2⟩ := zip_mem_at hq2
  have n1 := next_ok w.ws.st.ss a1 a2
  have n2 : φ_next_key [schD sch, stoD (keepP sch sto (allK sch sto S)), .str q.1.1] = .ok (.int q.2.num) := next_ok (kd := q.1) (sh := keep1 (allK sch sto S) q) w2.ws.st.ss b1 b2
  have e1 : dEq (.int q.2.num) (.int q.2.num) = .ok true := eq_self (n := 0) rfl (by decide)
  have e0 : dEq (.int 0) (.int 0) = .ok true := eq_self (n := 0) rfl (by decide)
  simp only [K15]
  simp [turnD, ftName, L_law_3, eVar, n1, n2, e1, e0]
end Pu
open Pu
theorem Wk.pure_law : ∀ ns : List Int, ns.length ≤ 63 → φ_law [.arr (ns.map D.int)] = .ok (.bl true) := by
  intro ns _
  obtain ⟨sch, sto, hs, ht, w, h6, hwf, hrr⟩ := draw_st ns 100 3 (by decide)
  have hs : φ__law_schema [A ns, .int 0] = .ok (schD sch) := hs
  have ht : φ__law_store [A ns, .int 100, schD sch, .int 3] = .ok (stoD sto) := ht
  have hl3 : sch.length ≤ 3 := by have := (six_facts h6).2.1; simpa using this
  have few9 : (rowsP sch sto).length ≤ 9 := by
    have := flat_lenP (g := kRows) (n := 3) (l := sch.zip sto) fun a ha => by
      unfold kRows
      rw [List.length_map]
      exact hrr _ (List.of_mem_zip (show (a.1, a.2) ∈ _ from ha)).2
    have e : (sch.zip sto).length ≤ 3 := by rw [List.length_zip]; omega
    show ((sch.zip sto).flatMap kRows).length ≤ 9
    omega
  have few : (rowsP sch sto).length ≤ 60 := by omega
  have hok : ∀ g ∈ sch.map (·.1), strOkP (g, 0) = true := by
    have all : ∀ l ∈ six, ∀ g ∈ l, strOkP (g, 0) = true := by decide +kernel
    exact all _ h6
  have hrw := law_rows_ok w
  have hsd := sortd_rows w few hok
  -- the rows drawn
  have hpick : ∀ k : Nat, ∃ c : Int, φ__law_pick [A ns, .int (900 + (k : Int)), .int 3] = .ok (.int c) := fun k => by
    obtain ⟨c, h, _⟩ := pick_ok ns (900 + k) (m := 3) (by decide)
    refine ⟨c, ?_⟩
    have e : ((900 + k : Nat) : Int) = 900 + (k : Int) := by omega
    rw [← e]; exact h
  obtain ⟨c, hc⟩ := Classical.axiomOfChoice hpick
  have hcs := lcA_over (f := fun p : Pr × Nat => D.tup [.int (p.2 : Nat), prD p.1]) (t := lcT (tgd (.tp (.cons (.nm 14) (.cons (.nm 7) .nil)))).f (den J_law_0).t (den E_law_0).v [some (A ns), some (schD sch), some (stoD sto), some (.lst ((srtP (rowsP sch sto)).map prD)), none, none, none, none, none, none, none, none, none, none, none]) (g := fun p => if c p.2 == 0 then some (prD p.1) else none) (xs := (srtP (rowsP sch sto)).zipIdx) fun p _ => by
    have hk := hc p.2
    have he : dEq (.int (c p.2)) (.int 0) = .ok (c p.2 == 0) := by rw [eq_pl (a := .int (c p.2)) (b := .int 0) rfl rfl (show 0 ≤ 60 by decide)]; rfl
    cases hd : (c p.2 == 0) with
    | true => rw [hd] at he; simp [lcT, ftName, E_law_0, J_law_0, eVar, hk, he]
    | false => rw [hd] at he; simp [lcT, ftName, E_law_0, J_law_0, eVar, hk, he]
  rw [filterMap_if] at hcs
  have eS : (((srtP (rowsP sch sto)).zipIdx.filter fun p => c p.2 == 0).map fun p => prD p.1) = (drw c (srtP (rowsP sch sto))).map prD := by unfold drw; rw [List.map_map]; rfl
  rw [eS] at hcs
  have hSm : ∀ p ∈ drw c (srtP (rowsP sch sto)), p ∈ rowsP sch sto := fun p hp => mem_srtP.mp (drw_mem hp)
  have hSl : (drw c (srtP (rowsP sch sto))).length ≤ 9 := Nat.le_trans (drw_len ..) (Nat.le_trans (srtP_len _) few9)
  have hen := enumL_map prD (srtP (rowsP sch sto))
  generalize drw c (srtP (rowsP sch sto)) = S at *
  -- kept
  have hrev : dRevL (.lst (S.map prD)) = .ok (.lst (S.reverse.map prD)) := by rw [List.map_reverse]; rfl
  have hcut : dSl (.lst (S.map prD)) none (some 1) = .ok (.lst ((S.take 1).map prD)) := by rw [List.map_take]; exact cutl_to _ 1
  have hadd : dAdd (.lst (S.reverse.map prD)) (.lst ((S.take 1).map prD)) = .ok (.lst ((S.reverse ++ S.take 1).map prD)) := by
    rw [List.map_append]
    exact add_l (by rw [List.length_map, List.length_map, List.length_reverse, List.length_take]; omega)
  have m1 : ∀ x, x ∈ S.reverse ++ S.take 1 ↔ x ∈ S := fun x => by
    rw [List.mem_append, List.mem_reverse]
    exact ⟨fun h => h.elim id fun z => List.mem_of_mem_take z, .inl⟩
  have hk1 := kept_from_ok w few (rows := S.reverse ++ S.take 1) (fun p hp => hSm p ((m1 p).mp hp)) (by rw [List.length_append, List.length_reverse, List.length_take]; omega) (d := .lst ((S.reverse ++ S.take 1).map prD)) rfl
  rw [keep_congr (K := allK sch sto (S.reverse ++ S.take 1)) (K' := allK sch sto S) fun x _ => by
    rw [mem_allK w, mem_allK w]
    exact ⟨fun ⟨p, hp, h⟩ => ⟨p, (m1 p).mp hp, h⟩, fun ⟨p, hp, h⟩ => ⟨p, (m1 p).mpr hp, h⟩⟩] at hk1
  have cl := clo_all w S
  have w2 := keep_st w cl
  have few2 : (rowsP sch (keepP sch sto (allK sch sto S))).length ≤ 60 := by rw [rows_keep]; exact Nat.le_trans (List.length_filter_le ..) few
  have hst := w2.is_store
  have hSK : ∀ p ∈ S, p ∈ allK sch sto S := fun p hp => (mem_allK w).mpr ⟨p, hp, .inl rfl⟩
  have hk2 := kept_from_ok w2 few2 (rows := S) (fun p hp => mem_rows_keep.mpr ⟨hSm p hp, hSK p hp⟩) (by omega) (d := .tup (S.map prD)) rfl
  have ea : allK sch (keepP sch sto (allK sch sto S)) S = allK sch sto S := by
    have key : ∀ l : List Pr, (∀ p ∈ l, p ∈ allK sch sto S) → allK sch (keepP sch sto (allK sch sto S)) l = allK sch sto l := by
      intro l
      induction l with
      | nil => intro _; rfl
      | cons p l ih =>
        intro h
        show (p :: rchL sch (keepP sch sto (allK sch sto S)) p) ++ allK sch (keepP sch sto (allK sch sto S)) l = (p :: rchL sch sto p) ++ allK sch sto l
        rw [rchL_keep w cl (h p List.mem_cons_self), ih fun q hq => h q (List.mem_cons_of_mem _ hq)]
    exact key S hSK
  rw [ea, keep_keep (fun x _ h => h) w.wh.len] at hk2
  have hk3 := kept_from_ok w few (rows := srtP (rowsP sch sto)) (fun p hp => mem_srtP.mp hp) (by have := srtP_len (rowsP sch sto); omega) (d := .lst ((srtP (rowsP sch sto)).map prD)) rfl
  rw [keep_all w.wh.len fun x hx => (mem_allK w).mpr ⟨x, mem_srtP.mpr hx, .inl rfl⟩] at hk3
  have hk4 := kept_from_ok w few (rows := []) (fun p hp => (nomatch hp)) (by decide) (d := .lst []) rfl
  have c0 : Clo sch sto (allK sch sto []) := clo_all w []
  have w0 := keep_st w c0
  have hrc0 := row_counts_ok w0
  have hrc2 := row_counts_ok w2
  have hz0 : ((sch.zip (keepP sch sto (allK sch sto []))).map fun p => D.tup [.str p.1.1, .int (p.2.rows.length : Nat)]) = (sch.zip sto).map fun q => D.tup [.str q.1.1, .int 0] := by
    rw [zip_keep, List.map_map]
    refine List.map_congr_left fun q _ => ?_
    show D.tup [.str q.1.1, .int ((q.2.rows.filter fun r => decide ((q.1.1, r.key) ∈ allK sch sto [])).length : Nat)] = _
    have : (q.2.rows.filter fun r => decide ((q.1.1, r.key) ∈ allK sch sto [])) = [] := List.filter_eq_nil_iff.mpr fun r _ => by
      have : allK sch sto [] = [] := rfl
      rw [this]; simp
    rw [this]; rfl
  rw [hz0] at hrc0
  -- the law's own
  have hli := list_prs S
  obtain ⟨s1, h1, x7, rfl⟩ := forD_run (I := fun (pre : List Pr) (s : En) => ∃ x7, s = K15 ns sch sto (keepP sch sto (allK sch sto S)) S (some (.lst ((S ++ pre.flatMap (rchL sch sto)).map prD))) x7 none none none none none none) (ft := (tgd (.nm 7)).f) (body := dS L_law_0) (f := prD) (xs := S) (s := K15 ns sch sto (keepP sch sto (allK sch sto S)) S (some (.lst (S.map prD))) none none none none none none none) ⟨none, by simp⟩ (fun pre p post s e ⟨x7, es⟩ => by
    subst es
    have hr := law_reached_ok w few p
    have l1 := flat_lenP (g := rchL sch sto) (n := 60) (l := pre) fun a _ => rchL_len w few a
    have l2 := rchL_len w few p
    have l3 : pre.length ≤ 9 := by
      have := congrArg List.length e
      rw [List.length_append, List.length_cons] at this
      omega
    have l4 : ((S ++ pre.flatMap (rchL sch sto)).map prD).length + ((rchL sch sto p).map prD).length ≤ 16777216 := by rw [List.length_map, List.length_map, List.length_append]; omega
    refine ⟨K15 ns sch sto (keepP sch sto (allK sch sto S)) S (some (.lst ((S ++ (pre ++ [p]).flatMap (rchL sch sto)).map prD))) (some (prD p)) none none none none none none, ?_, _, rfl⟩
    have eb : S ++ (pre ++ [p]).flatMap (rchL sch sto) = S ++ pre.flatMap (rchL sch sto) ++ rchL sch sto p := by rw [List.flatMap_append]; simp
    rw [eb]
    simp only [K15]
    rw [List.map_append (l₁ := S ++ pre.flatMap (rchL sch sto))]
    generalize (S ++ pre.flatMap (rchL sch sto)).map prD = P at *
    generalize (rchL sch sto p).map prD = Q at *
    simp [turnD, ftName, L_law_0, eVar, hr, sExt, lstAt, optO, sizeLine_eq, l4, -List.map_map])
  have hkm := keptM w S
  have lk : (nubP (S ++ S.flatMap (rchL sch sto))).length = (rowsP sch (keepP sch sto (allK sch sto S))).length := by
    refine List.Perm.length_eq ((List.perm_ext_iff_of_nodup (nubP_nd _) (rowsP_nd w2.wh)).mpr fun x => ?_)
    rw [mem_nubP, hkm, mem_rows_keep]
    refine ⟨fun h => ⟨?_, h⟩, fun h => h.2⟩
    obtain ⟨p, hp, h⟩ := (mem_allK w).mp h
    rcases h with rfl | h
    · exact hSm _ hp
    · exact h.row w
  have hset := lenset_prs (ps := S ++ S.flatMap (rchL sch sto)) (by rw [lk]; omega)
  rw [lk] at hset
  have hcnt := rows_count w2
  have e1 : (srtP (rowsP sch (keepP sch sto (allK sch sto S)))).length = (rowsP sch (keepP sch sto (allK sch sto S))).length := by
    rw [← isortP_srt (rowsP_nd w2.wh) fun x => Iff.rfl]
    exact (isortP_perm _).length_eq
  rw [e1] at hcnt
  have hsum := sum_ints ((sch.zip (keepP sch sto (allK sch sto S))).map fun p => ((p.2.rows.length : Nat) : Int))
  rw [hcnt, List.map_map] at hsum
  have hsum : biF .sum [.lst ((sch.zip (keepP sch sto (allK sch sto S))).map fun p => D.int (p.2.rows.length : Nat))] = .ok (.int ((rowsP sch (keepP sch sto (allK sch sto S))).length : Nat)) := hsum
  have ekeep : keepP sch sto (S ++ S.flatMap (rchL sch sto)) = keepP sch sto (allK sch sto S) := keep_congr fun x _ => hkm x
  obtain ⟨s2, h2, y7, y9, y10, rfl⟩ := forD_run (I := fun (pre : List (Knd × Shf)) (s : En) => ∃ y7 y9 y10, s = K15 ns sch sto (keepP sch sto (allK sch sto S)) S (some (.lst ((S ++ S.flatMap (rchL sch sto)).map prD))) y7 (some (.lst ((pre.map (keep1 (S ++ S.flatMap (rchL sch sto)))).map shD))) y9 y10 none none none) (ft := (tgd (.tp (.cons (.nm 9) (.cons (.nm 10) .nil)))).f) (body := dS L_law_1) (f := fun q : Knd × Shf => D.tup [kndD q.1, shD q.2]) (xs := sch.zip sto)
    (s := K15 ns sch sto (keepP sch sto (allK sch sto S)) S (some (.lst ((S ++ S.flatMap (rchL sch sto)).map prD))) x7 (some (.lst [])) none none none none none) ⟨x7, none, none, rfl⟩ (fun pre b post s e ⟨y7, y9, y10, es⟩ => by
    subst es
    have hpl : pre.length ≤ 3 := by
      have := congrArg List.length e
      rw [List.length_zip, List.length_append, List.length_cons] at this
      omega
    have hc1 := lcA_over (f := rwD) (t := lcT (tgd (.nm 7)).f (den J_law_1).t (den E_law_1).v (K15 ns sch sto (keepP sch sto (allK sch sto S)) S (some (.lst ((S ++ S.flatMap (rchL sch sto)).map prD))) none (some (.lst ((pre.map (keep1 (S ++ S.flatMap (rchL sch sto)))).map shD))) (some (kndD b.1)) (some (shD b.2)) none none none)) (g := fun r : Rw => if decide ((b.1.1, r.key) ∈ S ++ S.flatMap (rchL sch sto)) then some (rwD r) else none) (xs := b.2.rows) fun r _ => by
      have hi : dIn (.tup [.str b.1.1, .int r.key]) (.lst ((S ++ S.flatMap (rchL sch sto)).map prD)) = .ok (decide ((b.1.1, r.key) ∈ S ++ S.flatMap (rchL sch sto))) := in_prs (b.1.1, r.key) _
      simp only [K15, kndD]
      generalize (S ++ S.flatMap (rchL sch sto)).map prD = KK at *
      cases hd : decide ((b.1.1, r.key) ∈ S ++ S.flatMap (rchL sch sto)) with
      | true => rw [hd] at hi; simp [lcT, ftName, E_law_1, J_law_1, eVar, rwD, hi, sizeLine_eq]
      | false => rw [hd] at hi; simp [lcT, ftName, E_law_1, J_law_1, eVar, rwD, hi, sizeLine_eq]
    rw [filterMap_if] at hc1
    have htu : ∀ l : List D, biF .tuple [.lst l] = .ok (.tup l) := fun _ => rfl
    refine ⟨K15 ns sch sto (keepP sch sto (allK sch sto S)) S (some (.lst ((S ++ S.flatMap (rchL sch sto)).map prD))) y7 (some (.lst (((pre ++ [b]).map (keep1 (S ++ S.flatMap (rchL sch sto)))).map shD))) (some (kndD b.1)) (some (shD b.2)) none none none, ?_, _, _, _, rfl⟩
    have eb : ((pre ++ [b]).map (keep1 (S ++ S.flatMap (rchL sch sto)))).map shD = (pre.map (keep1 (S ++ S.flatMap (rchL sch sto)))).map shD ++ [.tup [.int b.2.num, .tup ((b.2.rows.filter fun r => decide ((b.1.1, r.key) ∈ S ++ S.flatMap (rchL sch sto))).map rwD)]] := by
      rw [List.map_append, List.map_append]; rfl
    rw [eb]
    have l4 : ((pre.map (keep1 (S ++ S.flatMap (rchL sch sto)))).map shD).length < 16777216 := by rw [List.length_map, List.length_map]; omega
    simp only [K15] at hc1 ⊢
    generalize (pre.map (keep1 (S ++ S.flatMap (rchL sch sto)))).map shD = P at *
    simp only [shD] at hc1 ⊢
    generalize (b.2.rows.filter fun r => decide ((b.1.1, r.key) ∈ S ++ S.flatMap (rchL sch sto))).map rwD = Q at *
    generalize (S ++ S.flatMap (rchL sch sto)).map prD = KK at *
    simp only [kndD] at hc1 ⊢
    simp [turnD, ftName, L_law_1, eVar, wipeE, hc1, htu, lstAt, optO, sizeLine_eq, l4, -List.map_map])
  have ek : (sch.zip sto).map (keep1 (S ++ S.flatMap (rchL sch sto))) = keepP sch sto (allK sch sto S) := ekeep
  rw [ek] at h2
  have e5 := eq_self (sto_flat w2.ws.st) (by decide)
  have e6 := eq_self (sto_flat w.ws.st) (by decide)
  obtain ⟨s3, h3, z9, z11, rfl⟩ := forD_run (I := fun (pre : List Pr) (s : En) => ∃ z9 z11, s = K15 ns sch sto (keepP sch sto (allK sch sto S)) S (some (.lst ((S ++ S.flatMap (rchL sch sto)).map prD))) y7 (some (.lst ((keepP sch sto (allK sch sto S)).map shD))) z9 y10 z11 none none) (ft := (tgd (.tp (.cons (.nm 9) (.cons (.nm 11) .nil)))).f) (body := dS L_law_2) (f := prD) (xs := S)
    (s := K15 ns sch sto (keepP sch sto (allK sch sto S)) S (some (.lst ((S ++ S.flatMap (rchL sch sto)).map prD))) y7 (some (.lst ((keepP sch sto (allK sch sto S)).map shD))) y9 y10 none none none) ⟨y9, none, rfl⟩ (fun pre p post s e ⟨z9, z11, es⟩ => by
    subst es
    exact ⟨_, law15_2 ns w few hSm (by rw [e]; simp) _ _ _ _ _ _ _ _, _, _, rfl⟩)
  obtain ⟨s4, h4, u9, u12, u13, rfl⟩ := forD_run (I := fun (pre : List (Knd × Shf)) (s : En) => ∃ u9 u12 u13, s = K15 ns sch sto (keepP sch sto (allK sch sto S)) S (some (.lst ((S ++ S.flatMap (rchL sch sto)).map prD))) y7 (some (.lst ((keepP sch sto (allK sch sto S)).map shD))) u9 y10 z11 u12 u13) (ft := (tgd (.tp (.cons (.nm 9) (.cons (.nm 12) .nil)))).f) (body := dS L_law_3) (f := fun q : Knd × Shf => D.tup [.str q.1.1, .int 0]) (xs := sch.zip sto)
    (s := K15 ns sch sto (keepP sch sto (allK sch sto S)) S (some (.lst ((S ++ S.flatMap (rchL sch sto)).map prD))) y7 (some (.lst ((keepP sch sto (allK sch sto S)).map shD))) z9 y10 z11 none none) ⟨z9, none, none, rfl⟩ (fun pre q post s e ⟨u9, u12, u13, es⟩ => by
    subst es
    exact ⟨_, law15_3 ns w (by rw [e]; simp) _ _ _ _ _ _ _ _, _, _, _, rfl⟩)
  have hc4 := lcA_over (f := fun p : Knd × Shf => D.tup [.str p.1.1, .int (p.2.rows.length : Nat)]) (t := lcT (tgd (.tp (.cons (.nm 9) (.cons (.nm 12) .nil)))).f (den .no).t (den E_law_2).v (K15 ns sch sto (keepP sch sto (allK sch sto S)) S (some (.lst ((S ++ S.flatMap (rchL sch sto)).map prD))) y7 (some (.lst ((keepP sch sto (allK sch sto S)).map shD))) none y10 z11 none u13)) (g := fun p : Knd × Shf => some (D.int (p.2.rows.length : Nat))) (xs := sch.zip (keepP sch sto (allK sch sto S))) fun q _ => by
    simp only [K15]
    simp [lcT, ftName, E_law_2, eVar]
  rw [fm_some] at hc4
  have hz := zipL_map kndD shD sch sto
  have e7 : dEq (.int ((rowsP sch (keepP sch sto (allK sch sto S))).length : Nat)) (.int ((rowsP sch (keepP sch sto (allK sch sto S))).length : Nat)) = .ok true := eq_self (n := 0) rfl (by decide)
  have hbb : dIs (.bl true) (.bl true) = .ok true := rfl
  have htu : ∀ l : List D, biF .tuple [.lst l] = .ok (.tup l) := fun _ => rfl
  have hit : ∀ l : List D, dItems (.tup l) = .ok l := fun _ => rfl
  simp only [K15, List.map_nil] at h1 h2 h3 h4 hc4
  simp only [stoD, schD] at *
  generalize (S ++ S.flatMap (rchL sch sto)).map prD = KE at *
  generalize (S.reverse ++ S.take 1).map prD = SR at *
  generalize S.reverse.map prD = SV at *
  generalize (S.take 1).map prD = ST at *
  generalize (keepP sch sto (allK sch sto S)).map shD = MD at *
  generalize (keepP sch sto (allK sch sto [])).map shD = M0 at *
  generalize (rowsP sch (keepP sch sto (allK sch sto S))).length = LN at *
  generalize dicV (rowsV sch sto) = F6 at *
  unfold φ_law runS ir_law
  show leave .fz (dS _ (enter 15 [A ns])) = _
  simp [eVar, ftName, hs, ht, wipeE, hrw, hsd, hen, hcs, hrev, hcut, hadd, hk1, hst, hbb, hli, h1, hz, h2, htu, e5, hk2, hk3, e6, h3, hk4, hrc0, h4, hrc2, hc4, hsum, hset, e7, hit, sizeLine_eq, -List.map_map, -List.append_assoc, -List.map_append, -List.map_reverse, -List.map_take]

end
open PySem PySem.W PySem.Calls PyProof.Rows
theorem PySem.Challenge.cw_heldrows_k15_whole_kept_from_holds : PySem.Challenge.rw_heldrows_k15_whole_kept_from.Holds := by
  w_on; o_law
  refine HandSHeadRun.head_any (r := OpenLaw.row PySem.Challenge.rw_heldrows_k15_whole_kept_from) (q := view (OpenLaw.row PySem.Challenge.rw_heldrows_k15_whole_kept_from).prog [41]) (H := Hd.hk) (ob := Hd.ob) (M := 4000) (loose := Hd.names) (d := HandSHeadRun.topDef (OpenLaw.row PySem.Challenge.rw_heldrows_k15_whole_kept_from).prog 41) (kwd := []) Hd.ob_eq
    (by kernel_rfl) (fun s => by kernel_rfl) Hd.run (by kernel_rfl) (by kernel_rfl) (by kernel_rfl) (by rfl) (by first | assumption | decide +kernel) (by decide +kernel) ⟨rfl, rfl, rfl, rfl, rfl, by decide +kernel⟩ ?hw ?hc
  case hw => w_witness2
  case hc =>
    refine Hr.walk_ofH (l := PySem.Challenge.rw_heldrows_k15_whole_kept_from) (n := 63) (k := 8) (x := "script") rfl (by decide) (by kernel_rfl) ⟨rfl, by decide, by decide⟩ ?F
    intro w mg fa h Y G hmg0
    obtain ⟨K, KX, c⟩ := Y
    have hmg : mg ("law" : PySem.Str) = some (.ref fa) := by
      have e : (HandSHeadRun.topDef (OpenLaw.row PySem.Challenge.rw_heldrows_k15_whole_kept_from).prog 41).name = ("law" : PySem.Str) := by kernel_rfl
      rw [← e]
      exact hmg0
    obtain ⟨fd, sp, hb, hsp, hF⟩ := Wk.facts (P := (PySem.Challenge.rw_heldrows_k15_whole_kept_from).prog) (w := w) KX G hmg c Wk.pure_law
    exact ⟨K, fd, sp, KX, hb, hsp, hF⟩
