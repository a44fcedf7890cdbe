import PyProof.Rows.All
import Wide.All
import OpenK.AllK
import Wide.FinOn
import HandS.ForMost
import HandS.ForExc
import HandS.CallSlots
import HandS.Lambda
import HandS.TupAny
import HandS.Conv
import HandS.DictComp
import HandS.ListItems
import HandS.FStr
import HandS.Zip
import HandS.Sort
import HandS.Flow
import HandS.More
import HandS.Style
import HandS.DictTup
import HandS.StrMore
import HandS.TupLen
import HandS.TupMul
import HandS.RaiseMore
import HandS.EndTab
import KE.DataCmp
import KE.SortData
import KE.DataEq
import HandS.Small
import HandS.GenList
import KE.DataMinMax
import HandS.Words
import HandS.WordsExc
import HandS.Head0
import HandS.Head1
import HandS.Head2
import HandS.HeadHook1
import HandS.HeadHook2
import HandS.HeadHook3
import HandS.HeadHook4
import HandS.HeadWalk
import KE.GoesMore
import HandS.Strs
import PySem.Challenge.RW_tailorstack_k01_measures_and_sizes
set_option Elab.async false
set_option linter.all false
set_option maxRecDepth 100000
set_option maxHeartbeats 1000000
namespace Fd
open PySem PySem.Spec PyProof.Rows L2

/-! ### data -/
inductive DK where
  | k (x : Key)
  | t (ks : List Key)
  deriving DecidableEq
inductive D where
  | non | bl (b : Bool) | int (i : Int) | str (x : Str)
  | tup (ds : List D) | kt (ds : List D) | kl (ds : List D) | lst (ds : List D) | dct (t : Bool) (kvs : List (DK × D)) | ref (l : Nat) | lam (i : Nat)
  /-- a tuple whose object is known -/
  | ft (ds : List D)
/-- an object of the store -/
inductive SO where
  | lst (ds : List D) | dct (t : Bool) (kvs : List (DK × D)) | ins (c : Nat) (fs : List (Str × D))
structure Sto where
  objs : List SO
  lck : List Nat
abbrev Sto.n (S : Sto) : Nat := S.objs.length
inductive R (α : Type) where
  | ok (a : α) (S : Sto) | exc (c : Nat) (S : Sto) | stk
abbrev M (α : Type) := Sto → R α
def M.pure {α : Type} (a : α) : M α := fun S => .ok a S
def M.bind {α β : Type} (f : M α) (k : α → M β) : M β := fun S => match f S with
  | .ok a S' => k a S'
  | .exc c S' => .exc c S'
  | .stk => .stk
def M.exc {α : Type} (c : Nat) : M α := fun S => .exc c S
def M.stk {α : Type} : M α := fun _ => .stk
instance : Monad M where
  pure := M.pure
  bind := M.bind
/-- lift a partial value -/
def M.opt {α : Type} (o : Option α) : M α := fun S => match o with
  | some a => .ok a S
  | none => .stk
abbrev En := List (Option D)

/-! ### how data lie in the heap -/
structure Gx where
  K : PySem.W.Frag
  cA : Nat → Addr
  lamP : Nat → Addr → Addr → HO → HO → Prop
  T : Hp → Prop
  tst : ∀ H H' : Hp, (∀ b o, H b = some o → ((∃ ps, o = .tbl ps) ∨ ∃ φ, o = .ext φ) → H' b = some o) → T H → T H'

/-- a dict's entries as an object -/
inductive HOd : Bool → List (DK × V) → HO → Prop where
  | k (l : List (Key × V)) : HOd false (l.map fun p => (DK.k p.1, p.2)) (.dK l)
  | t (l : List (List Key × V)) : HOd true (l.map fun p => (DK.t p.1, p.2)) (.dT l)

/-- a tuple of the module -/
def KTup (K : PySem.W.Frag) (a : Addr) (xs : List V) : Prop := ∃ (o : Obj) (its : Array Value) (n : Nat), K.lookup a = some o ∧ o.cls = .type "tuple" ∧ o.data = .seq its n ∧ its.size ≤ sizeLine ∧ Vals xs its.toList
/-- a list of the module -/
def KLst (K : PySem.W.Frag) (a : Addr) (xs : List V) : Prop := ∃ (o : Obj) (its : Array Value) (n : Nat), K.lookup a = some o ∧ o.cls = .type "list" ∧ o.dict = none ∧ o.data = .seq its n ∧ its.size ≤ sizeLine ∧ Vals xs its.toList
def NotOwn (μ : Nat → Addr) (n : Nat) (a : Addr) : Prop := ∀ l, l < n → μ l ≠ a
mutual
def RV (G : Gx) (μ : Nat → Addr) (n : Nat) (H : Hp) : D → V → Prop
  | .non, v => v = .non
  | .bl b, v => v = .bl b
  | .int i, v => v = .int i
  | .str x, v => v = .str x
  | .tup ds, v => ∃ a vs, v = .ref a ∧ H a = some (.tup vs) ∧ RVs G μ n H ds vs
  | .kt ds, v => ∃ a vs, v = .ref a ∧ KTup G.K a vs ∧ RVs G μ n H ds vs
  | .kl ds, v => ∃ a vs, v = .ref a ∧ KLst G.K a vs ∧ RVs G μ n H ds vs
  | .lst ds, v => ∃ a vs, v = .ref a ∧ NotOwn μ n a ∧ H a = some (.lst vs) ∧ RVs G μ n H ds vs
  | .dct t kvs, v => ∃ a vs od o, v = .ref a ∧ NotOwn μ n a ∧ H a = some (.frz od o) ∧ HOd t vs o ∧ RVk G μ n H kvs vs
  | .ft ds, v => ∃ a vs od, v = .ref a ∧ NotOwn μ n a ∧ H a = some (.frz od (.tup vs)) ∧ od.dict = none ∧ RVs G μ n H ds vs
  | .ref l, v => l < n ∧ v = .ref (μ l)
  | .lam i, v => ∃ a o c oc, v = .ref a ∧ NotOwn μ n a ∧ H a = some o ∧ G.lamP i a c o oc ∧ (∀ ps, o ≠ .tbl ps) ∧ NotOwn μ n c ∧ H c = some oc ∧ ∀ ps, oc ≠ .tbl ps
def RVs (G : Gx) (μ : Nat → Addr) (n : Nat) (H : Hp) : List D → List V → Prop
  | [], vs => vs = []
  | d :: ds, vs => ∃ v r, vs = v :: r ∧ RV G μ n H d v ∧ RVs G μ n H ds r
def RVk (G : Gx) (μ : Nat → Addr) (n : Nat) (H : Hp) : List (DK × D) → List (DK × V) → Prop
  | [], vs => vs = []
  | (k, d) :: ds, vs => ∃ v r, vs = (k, v) :: r ∧ RV G μ n H d v ∧ RVk G μ n H ds r
end

/-- what stands (but what is owned, and the tables) stays -/
structure Ext (μ : Nat → Addr) (n : Nat) (H H' : Hp) : Prop where
  keep : ∀ a o, H a = some o → NotOwn μ n a → (∀ ps, o ≠ .tbl ps) → H' a = some o
  frz : ∀ a od u, H a = some (.frz od u) → H' a = some (.frz od u)
  there : ∀ a o, H a = some o → (∀ ps, o ≠ .tbl ps) → ∃ o', H' a = some o' ∧ ∀ ps, o' ≠ .tbl ps
theorem Ext.refl (μ : Nat → Addr) (n : Nat) (H : Hp) : Ext μ n H H := ⟨fun _ _ h _ _ => h, fun _ _ _ h => h, fun _ o h nt => ⟨o, h, nt⟩⟩
/-- the addresses of the old locations stay -/
def Agr (μ : Nat → Addr) (n : Nat) (μ' : Nat → Addr) (n' : Nat) : Prop := n ≤ n' ∧ ∀ l, l < n → μ' l = μ l
theorem Agr.refl (μ : Nat → Addr) (n : Nat) : Agr μ n μ n := ⟨Nat.le_refl _, fun _ _ => rfl⟩
theorem Agr.trans {μ μ1 μ2 : Nat → Addr} {n n1 n2 : Nat} (a : Agr μ n μ1 n1) (b : Agr μ1 n1 μ2 n2) : Agr μ n μ2 n2 :=
  ⟨Nat.le_trans a.1 b.1, fun l h => (b.2 l (Nat.lt_of_lt_of_le h a.1)).trans (a.2 l h)⟩

/-- the new locations are new addresses: none of what stood -/
def Frsh (μ' : Nat → Addr) (n n' : Nat) (H : Hp) : Prop := ∀ l, n ≤ l → l < n' → ∀ o, H (μ' l) = some o → ∃ ps, o = .tbl ps
theorem NotOwn.mono {μ μ' : Nat → Addr} {n n' : Nat} {H : Hp} {a : Addr} {o : HO} (h : NotOwn μ n a) (g : Agr μ n μ' n') (f : Frsh μ' n n' H) (e : H a = some o) (nt : ∀ ps, o ≠ .tbl ps) : NotOwn μ' n' a := fun l hl q => by
  by_cases hn : l < n
  · rw [g.2 l hn] at q; exact h l hn q
  · obtain ⟨ps, z⟩ := f l (by omega) hl o (by rw [q]; exact e)
    exact nt ps z
theorem rd_keep {μ : Nat → Addr} {n : Nat} {H H' : Hp} {a : Addr} {u : HO} (x : Ext μ n H H') (h : NotOwn μ n a) (hu : ∀ ps, u ≠ .tbl ps) (r : Rd H a u) : Rd H' a u := by
  rcases r with r | ⟨o, r⟩
  · exact .inl (x.keep a u r h hu)
  · exact .inr ⟨o, x.frz a o u r⟩
theorem rd_some {H : Hp} {a : Addr} {u : HO} (r : Rd H a u) : ∃ o, H a = some o := by
  rcases r with r | ⟨o, r⟩
  · exact ⟨_, r⟩
  · exact ⟨_, r⟩
theorem HOd.notbl {t : Bool} {vs : List (DK × V)} {o : HO} (h : HOd t vs o) : ∀ ps, o ≠ .tbl ps := fun ps e => by cases h <;> cases e

/-- no tuple is owned -/
def TupFree (μ : Nat → Addr) (n : Nat) (H : Hp) : Prop := ∀ l, l < n → ∀ vs, ¬ Rd H (μ l) (.tup vs)
structure Grow (μ : Nat → Addr) (n : Nat) (H : Hp) (μ' : Nat → Addr) (n' : Nat) (H' : Hp) : Prop where
  agr : Agr μ n μ' n'
  frsh : Frsh μ' n n' H
  ext : Ext μ n H H'
theorem Grow.refl (μ : Nat → Addr) (n : Nat) (H : Hp) : Grow μ n H μ n H := ⟨.refl _ _, fun l h1 h2 => absurd h2 (by omega), .refl _ _ _⟩
theorem tup_keep {μ : Nat → Addr} {n : Nat} {H H' : Hp} {a : Addr} {vs : List V} (x : Ext μ n H H') (tf : TupFree μ n H) (h : H a = some (.tup vs)) : H' a = some (.tup vs) :=
  x.keep a _ h (fun l hl q => tf l hl vs (.inl (by rw [q]; exact h))) (fun ps e => by cases e)
mutual
theorem RV.mono {G : Gx} {μ μ' : Nat → Addr} {n n' : Nat} {H H' : Hp} (g : Grow μ n H μ' n' H') (tf : TupFree μ n H) : ∀ (d : D) (v : V), RV G μ n H d v → RV G μ' n' H' d v
  | .non, _, h => h
  | .bl _, _, h => h
  | .int _, _, h => h
  | .str _, _, h => h
  | .tup ds, _, h => by
    obtain ⟨a, vs, h1, h2, h3⟩ := h
    exact ⟨a, vs, h1, tup_keep g.ext tf h2, RVs.mono g tf ds vs h3⟩
  | .kt ds, _, h => by
    obtain ⟨a, vs, h1, h2, h3⟩ := h
    exact ⟨a, vs, h1, h2, RVs.mono g tf ds vs h3⟩
  | .kl ds, _, h => by
    obtain ⟨a, vs, h1, h2, h3⟩ := h
    exact ⟨a, vs, h1, h2, RVs.mono g tf ds vs h3⟩
  | .lst ds, _, h => by
    obtain ⟨a, vs, h1, h2, h3, h4⟩ := h
    exact ⟨a, vs, h1, h2.mono g.agr g.frsh h3 (fun _ e => by cases e), g.ext.keep a _ h3 h2 (fun _ e => by cases e), RVs.mono g tf ds vs h4⟩
  | .dct t ds, _, h => by
    obtain ⟨a, vs, od, o, h1, h2, h3, h4, h5⟩ := h
    exact ⟨a, vs, od, o, h1, h2.mono g.agr g.frsh h3 (fun _ e => by cases e), g.ext.frz a od o h3, h4, RVk.mono g tf ds vs h5⟩
  | .ft ds, _, h => by
    obtain ⟨a, vs, od, h1, h2, h3, h4, h5⟩ := h
    exact ⟨a, vs, od, h1, h2.mono g.agr g.frsh h3 (fun _ e => by cases e), g.ext.frz a od _ h3, h4, RVs.mono g tf ds vs h5⟩
  | .ref l, _, h => by
    obtain ⟨h1, h2⟩ := h
    exact ⟨Nat.lt_of_lt_of_le h1 g.agr.1, by rw [g.agr.2 l h1]; exact h2⟩
  | .lam i, _, h => by
    obtain ⟨a, o, c, oc, h1, h2, h3, h4, h5, h6, h7, h8⟩ := h
    exact ⟨a, o, c, oc, h1, h2.mono g.agr g.frsh h3 h5, g.ext.keep a o h3 h2 h5, h4, h5, h6.mono g.agr g.frsh h7 h8, g.ext.keep c oc h7 h6 h8, h8⟩
theorem RVs.mono {G : Gx} {μ μ' : Nat → Addr} {n n' : Nat} {H H' : Hp} (g : Grow μ n H μ' n' H') (tf : TupFree μ n H) : ∀ (ds : List D) (vs : List V), RVs G μ n H ds vs → RVs G μ' n' H' ds vs
  | [], _, h => h
  | d :: ds, vs, h => by
    obtain ⟨v, r, h1, h2, h3⟩ := h
    exact ⟨v, r, h1, RV.mono g tf d v h2, RVs.mono g tf ds r h3⟩
theorem RVk.mono {G : Gx} {μ μ' : Nat → Addr} {n n' : Nat} {H H' : Hp} (g : Grow μ n H μ' n' H') (tf : TupFree μ n H) : ∀ (ds : List (DK × D)) (vs : List (DK × V)), RVk G μ n H ds vs → RVk G μ' n' H' ds vs
  | [], _, h => h
  | (k, d) :: ds, vs, h => by
    obtain ⟨v, r, h1, h2, h3⟩ := h
    exact ⟨v, r, h1, RV.mono g tf d v h2, RVk.mono g tf ds r h3⟩
end
theorem RVs.paired {G : Gx} {μ : Nat → Addr} {n : Nat} {H : Hp} : ∀ {ds : List D} {vs : List V}, RVs G μ n H ds vs → Paired (RV G μ n H) ds vs
  | [], _, h => by
    have h : _ = _ := h
    subst h; exact .nil
  | d :: ds, _, h => by
    obtain ⟨v, r, rfl, h2, h3⟩ := h
    exact .cons h2 h3.paired
theorem RVs.of {G : Gx} {μ : Nat → Addr} {n : Nat} {H : Hp} : ∀ {ds : List D} {vs : List V}, Paired (RV G μ n H) ds vs → RVs G μ n H ds vs
  | [], _, .nil => rfl
  | _ :: _, _, .cons h t => ⟨_, _, rfl, h, RVs.of t⟩
theorem RVs.length {G : Gx} {μ : Nat → Addr} {n : Nat} {H : Hp} {ds : List D} {vs : List V} (h : RVs G μ n H ds vs) : ds.length = vs.length := Paired.length h.paired
abbrev RVf (G : Gx) (μ : Nat → Addr) (n : Nat) (H : Hp) : List (Str × D) → List (Str × V) → Prop := Paired fun p q => p.1 = q.1 ∧ RV G μ n H p.2 q.2

/-- an object that is held, locked or not -/
def Held (b : Bool) (H : Hp) (a : Addr) (o : HO) : Prop := if b = true then ∃ od, H a = some (.frz od o) else H a = some o
theorem Held.rd {b : Bool} {H : Hp} {a : Addr} {o : HO} (h : Held b H a o) : Rd H a o := by
  unfold Held at h
  cases b with
  | true => obtain ⟨od, h⟩ := h; exact .inr ⟨od, h⟩
  | false => exact .inl h
def LO (G : Gx) (μ : Nat → Addr) (n : Nat) (H : Hp) (b : Bool) (a : Addr) : SO → Prop
  | .lst ds => ∃ vs, Held b H a (.lst vs) ∧ RVs G μ n H ds vs
  | .dct t kvs => ∃ vs o, Held b H a o ∧ HOd t vs o ∧ RVk G μ n H kvs vs
  | .ins c fs => ∃ dx fs', H a = some (.ins (G.cA c) dx fs') ∧ RVf G μ n H fs fs'
abbrev Sto.locked (S : Sto) (l : Nat) : Bool := S.lck.contains l
structure Lnk (G : Gx) (μ : Nat → Addr) (S : Sto) (H : Hp) : Prop where
  inj : ∀ l, l < S.n → ∀ l', l' < S.n → μ l = μ l' → l = l'
  ob : ∀ l o, S.objs[l]? = some o → LO G μ S.n H (S.locked l) (μ l) o
  tab : G.T H
  lk : ∀ l, l ∈ S.lck → l < S.n
theorem LO.hd {G : Gx} {μ : Nat → Addr} {n : Nat} {H : Hp} {b : Bool} {a : Addr} {o : SO} (h : LO G μ n H b a o) : ∃ u, H a = .some u ∧ (∀ ps, u ≠ .tbl ps) ∧ (∀ φ, u ≠ .ext φ) ∧ ∀ vs, ¬ Rd H a (.tup vs) := by
  have key : ∀ (u : HO), (∀ ps, u ≠ .tbl ps) → (∀ φ, u ≠ .ext φ) → (∀ vs, u ≠ .tup vs) → (∀ od w, u ≠ .frz od w) → Held b H a u → ∃ u, H a = .some u ∧ (∀ ps, u ≠ .tbl ps) ∧ (∀ φ, u ≠ .ext φ) ∧ ∀ vs, ¬ Rd H a (.tup vs) := fun u h1 h2 h3 h4 hh => by
    unfold Held at hh
    cases b with
    | true =>
      obtain ⟨od, e⟩ := hh
      refine ⟨_, e, fun ps q => (by cases q), fun φ q => (by cases q), fun vs r => ?_⟩
      rcases r with r | ⟨o, r⟩
      · rw [e] at r; cases r
      · rw [e] at r; cases r; exact h3 vs rfl
    | false =>
      have e : H a = Option.some u := hh
      refine ⟨_, e, h1, h2, fun vs r => ?_⟩
      rcases r with r | ⟨o, r⟩
      · rw [e] at r; cases r; exact h3 vs rfl
      · rw [e] at r; cases r; exact h4 _ _ rfl
  cases o with
  | lst ds =>
    obtain ⟨vs, h, _⟩ := h
    exact key _ (fun _ e => by cases e) (fun _ e => by cases e) (fun _ e => by cases e) (fun _ _ e => by cases e) h
  | dct t kvs =>
    obtain ⟨vs, o, h, hd, _⟩ := h
    exact key o hd.notbl (fun _ e => by cases hd <;> cases e) (fun _ e => by cases hd <;> cases e) (fun _ _ e => by cases hd <;> cases e) h
  | ins c fs =>
    obtain ⟨dx, fs', h, _⟩ := h
    refine ⟨_, h, fun _ e => (by cases e), fun _ e => (by cases e), fun vs r => ?_⟩
    rcases r with r | ⟨o, r⟩
    · rw [h] at r; cases r
    · rw [h] at r; cases r
theorem getE_of_lt {α : Type} {l : List α} {i : Nat} (h : i < l.length) : ∃ a, l[i]? = some a := ⟨l[i], List.getElem?_eq_getElem h⟩
theorem Lnk.tf {G : Gx} {μ : Nat → Addr} {S : Sto} {H : Hp} (L : Lnk G μ S H) : TupFree μ S.n H := fun l hl vs => by
  obtain ⟨o, e⟩ := getE_of_lt hl
  obtain ⟨_, _, _, _, h⟩ := (L.ob l o e).hd
  exact h vs
/-- one step, or many -/
structure Stp (G : Gx) (μ : Nat → Addr) (S : Sto) (H : Hp) (μ' : Nat → Addr) (S' : Sto) (H' : Hp) : Prop where
  lnk : Lnk G μ' S' H'
  grow : Grow μ S.n H μ' S'.n H'
theorem Stp.refl {G : Gx} {μ : Nat → Addr} {S : Sto} {H : Hp} (L : Lnk G μ S H) : Stp G μ S H μ S H := ⟨L, .refl _ _ _⟩
theorem Grow.trans {μ μ1 μ2 : Nat → Addr} {n n1 n2 : Nat} {H H1 H2 : Hp} (a : Grow μ n H μ1 n1 H1) (b : Grow μ1 n1 H1 μ2 n2 H2) : Grow μ n H μ2 n2 H2 := by
  refine ⟨a.agr.trans b.agr, fun l h1 h2 o e => ?_, fun x o e hx nt => ?_, fun x od u e => b.ext.frz _ _ _ (a.ext.frz _ _ _ e), fun x o e nt => ?_⟩
  · by_cases hl : l < n1
    · rw [b.agr.2 l hl] at e
      exact a.frsh l h1 hl o e
    · refine Classical.byContradiction fun z => ?_
      obtain ⟨o', e', nt⟩ := a.ext.there _ o e fun ps q => z ⟨ps, q⟩
      obtain ⟨ps, q⟩ := b.frsh l (by omega) h2 o' e'
      exact nt ps q
  · exact b.ext.keep x o (a.ext.keep x o e hx nt) (hx.mono a.agr a.frsh e nt) nt
  · obtain ⟨o', e', nt'⟩ := a.ext.there x o e nt
    exact b.ext.there x o' e' nt'
theorem Stp.trans {G : Gx} {μ μ1 μ2 : Nat → Addr} {S S1 S2 : Sto} {H H1 H2 : Hp} (a : Stp G μ S H μ1 S1 H1) (b : Stp G μ1 S1 H1 μ2 S2 H2) : Stp G μ S H μ2 S2 H2 := ⟨b.lnk, a.grow.trans b.grow⟩

/-! ### the slots -/
structure REn (G : Gx) (μ : Nat → Addr) (n : Nat) (H : Hp) (σd : En) (σ : L2.St) : Prop where
  len : σd.length ≤ σ.length
  at_ : ∀ (i : Nat) (d : D), σd[i]? = some (some d) → ∃ v, σ[i]? = some (some v) ∧ RV G μ n H d v
theorem REn.mono {G : Gx} {μ μ' : Nat → Addr} {n n' : Nat} {H H' : Hp} {σd : En} {σ : L2.St} (r : REn G μ n H σd σ) (g : Grow μ n H μ' n' H') (tf : TupFree μ n H) : REn G μ' n' H' σd σ := ⟨r.len, fun i d e => by
  obtain ⟨v, h1, h2⟩ := r.at_ i d e
  exact ⟨v, h1, h2.mono g tf⟩⟩
theorem REn.set {G : Gx} {μ : Nat → Addr} {n : Nat} {H : Hp} {σd : En} {σ : L2.St} {i : Nat} {d : D} {v : V} (r : REn G μ n H σd σ) (h : RV G μ n H d v) : REn G μ n H (σd.set i (some d)) (σ.set i (some v)) := by
  refine ⟨by rw [List.length_set, List.length_set]; exact r.len, fun j e hj => ?_⟩
  by_cases h1 : i = j
  · subst h1
    by_cases h2 : i < σd.length
    · rw [List.getElem?_set_self h2] at hj
      cases hj
      exact ⟨v, by rw [List.getElem?_set_self (Nat.lt_of_lt_of_le h2 r.len)], h⟩
    · rw [List.getElem?_eq_none (by simpa using h2)] at hj; cases hj
  · rw [List.getElem?_set_ne h1] at hj ⊢
    exact r.at_ j e hj
theorem REn.nil {G : Gx} {μ : Nat → Addr} {n : Nat} {H : Hp} {σ : L2.St} : REn G μ n H [] σ := ⟨Nat.zero_le _, fun i d e => by simp at e⟩

/-! ### readings -/
/-- what is wanted behind an outcome -/
def Post {α : Type} (G : Gx) (μ : Nat → Addr) (S : Sto) (H : Hp) (W : XK) (Q : α → Sto → (Nat → Addr) → Hp → Prop) : R α → Prop
  | .ok a S' => ∀ μ' H', Stp G μ S H μ' S' H' → Q a S' μ' H'
  | .exc c S' => ∀ μ' H', Stp G μ S H μ' S' H' → W (.ref (G.cA c)) none H'
  | .stk => False
theorem Post.later {α : Type} {G : Gx} {μ μ1 : Nat → Addr} {S S1 : Sto} {H H1 : Hp} {W : XK} {Q : α → Sto → (Nat → Addr) → Hp → Prop} (s : Stp G μ S H μ1 S1 H1) : ∀ {r : R α}, Post G μ S H W Q r → Post G μ1 S1 H1 W Q r
  | .ok _ _, h => fun μ' H' s' => h μ' H' (s.trans s')
  | .exc _ _, h => fun μ' H' s' => h μ' H' (s.trans s')
  | .stk, h => h
theorem Post.mono {α : Type} {G : Gx} {μ : Nat → Addr} {S : Sto} {H : Hp} {W : XK} {Q Q' : α → Sto → (Nat → Addr) → Hp → Prop} (hq : ∀ a S' μ' H', Stp G μ S H μ' S' H' → Q a S' μ' H' → Q' a S' μ' H') : ∀ {r : R α}, Post G μ S H W Q r → Post G μ S H W Q' r
  | .ok _ _, h => fun μ' H' s' => hq _ _ _ _ s' (h μ' H' s')
  | .exc _ _, h => h
  | .stk, h => h
theorem Post.bind {α β : Type} {G : Gx} {μ : Nat → Addr} {S : Sto} {H : Hp} {W : XK} {Q : β → Sto → (Nat → Addr) → Hp → Prop} {f : M α} {k : α → M β} (h : Post G μ S H W Q ((f >>= k) S)) : Post G μ S H W (fun a S1 μ1 H1 => Post G μ1 S1 H1 W Q (k a S1)) (f S) := by
  have h : Post G μ S H W Q (M.bind f k S) := h
  unfold M.bind at h
  cases e : f S with
  | ok a S1 =>
    rw [e] at h
    exact fun μ1 H1 s1 => h.later s1
  | exc c S1 =>
    rw [e] at h
    exact h
  | stk =>
    rw [e] at h
    exact h
/-- the start of a reading: what is known -/
structure At (G : Gx) (σd : En) (S : Sto) (μ : Nat → Addr) (σ : L2.St) (H : Hp) : Prop where
  en : REn G μ S.n H σd σ
  lnk : Lnk G μ S H
theorem At.step {G : Gx} {σd : En} {S S' : Sto} {μ μ' : Nat → Addr} {σ : L2.St} {H H' : Hp} (a : At G σd S μ σ H) (s : Stp G μ S H μ' S' H') : At G σd S' μ' σ H' := ⟨a.en.mono s.grow a.lnk.tf, s.lnk⟩
theorem Stp.rv {G : Gx} {S S' : Sto} {μ μ' : Nat → Addr} {H H' : Hp} (s : Stp G μ S H μ' S' H') (L : Lnk G μ S H) {d : D} {v : V} (r : RV G μ S.n H d v) : RV G μ' S'.n H' d v := r.mono s.grow L.tf
theorem Stp.rvs {G : Gx} {S S' : Sto} {μ μ' : Nat → Addr} {H H' : Hp} (s : Stp G μ S H μ' S' H') (L : Lnk G μ S H) {d : List D} {v : List V} (r : RVs G μ S.n H d v) : RVs G μ' S'.n H' d v := r.mono s.grow L.tf
def rdE (G : Gx) (W : XK) (f : En → M D) : TE := fun σ H Q => ∃ σd S μ, At G σd S μ σ H ∧ Post G μ S H W (fun d S' μ' H' => ∀ v, RV G μ' S'.n H' d v → Q v H') (f σd S)
def rdA (G : Gx) (W : XK) (f : En → M (List D)) : TA := fun σ H Q => ∃ σd S μ, At G σd S μ σ H ∧ Post G μ S H W (fun d S' μ' H' => ∀ v, RVs G μ' S'.n H' d v → Q v H') (f σd S)
def rdT (G : Gx) (W : XK) (f : En → M Bool) : TT := fun σ H Q => ∃ σd S μ, At G σd S μ σ H ∧ Post G μ S H W (fun b _ _ H' => Q b H') (f σd S)
/-- how a statement ends -/
inductive Fl where
  | nx (σ : En) | bk (σ : En) | ct (σ : En) | rt (d : D)
def flP (G : Gx) (Dn : Ends) : Fl → Sto → (Nat → Addr) → Hp → Prop
  | .nx σd, S, μ, H => ∀ σ, REn G μ S.n H σd σ → Dn.nx σ H
  | .bk σd, S, μ, H => ∀ σ, REn G μ S.n H σd σ → Dn.bk σ H
  | .ct σd, S, μ, H => ∀ σ, REn G μ S.n H σd σ → Dn.ct σ H
  | .rt d, S, μ, H => ∀ v, RV G μ S.n H d v → Dn.rt v H
def rdS (G : Gx) (W : XK) (f : En → M Fl) : TS := fun Dn σ H => ∃ σd S μ, At G σd S μ σ H ∧ Post G μ S H W (fun fl S' μ' H' => flP G Dn fl S' μ' H') (f σd S)
end Fd

set_option Elab.async false
set_option linter.all false
set_option maxRecDepth 100000
set_option maxHeartbeats 1000000
namespace Fd
open PySem PySem.Spec PyProof.Rows L2
/-! ### weaker readings -/
section
variable {X : Cx} {e : Expr} {t t' : TE}
theorem pe_imp (h : PE X e t) (m : ∀ σ H Q, t' σ H Q → t σ H Q) : PE X e t' := ⟨fun pins s σ H Q I q => h.run pins s σ H Q I (m σ H Q q)⟩
theorem pt_imp {e : Expr} {t t' : TT} (h : PT X e t) (m : ∀ σ H Q, t' σ H Q → t σ H Q) : PT X e t' := ⟨fun pins s σ H Q I q => h.run pins s σ H Q I (m σ H Q q)⟩
theorem pw_imp {e : Expr} {t t' : TT} (h : PW X e t) (m : ∀ σ H Q, t' σ H Q → t σ H Q) : PW X e t' := ⟨fun wh pins s σ H Q I q => h.run wh pins s σ H Q I (m σ H Q q)⟩
theorem pa_imp {es : List Expr} {t t' : TA} (h : PA X es t) (m : ∀ σ H Q, t' σ H Q → t σ H Q) : PA X es t' := ⟨fun p pins s σ H Q I q => h.run p pins s σ H Q I (m σ H Q q)⟩
theorem ps_imp {st : Stmt} {t t' : TS} (h : PS X st t) (m : ∀ D σ H, t' D σ H → t D σ H) : PS X st t' := ⟨fun pins s σ H D I q => h.run pins s σ H D I (m D σ H q)⟩
theorem pss_imp {st : List Stmt} {t t' : TS} (h : PSs X st t) (m : ∀ D σ H, t' D σ H → t D σ H) : PSs X st t' := ⟨fun pins s σ H D I q => h.run pins s σ H D I (m D σ H q)⟩
theorem opR_imp {f : Value → Value → Sem Value} {r r' : R2} (h : OpR X f r) (m : ∀ x y H Q, r' x y H Q → r x y H Q) : OpR X f r' := fun pins s σ H x y v u Q I rx ry q => h pins s σ H x y v u Q I rx ry (m x y H Q q)
end

/-! ### the judgements -/
abbrev SE (X : Cx) (G : Gx) (W : XK) (e : Expr) (f : En → M D) : Prop := PE X e (rdE G W f)
abbrev STe (X : Cx) (G : Gx) (W : XK) (e : Expr) (f : En → M Bool) : Prop := PT X e (rdT G W f)
abbrev SW (X : Cx) (G : Gx) (W : XK) (e : Expr) (f : En → M Bool) : Prop := PW X e (rdT G W f)
abbrev SA (X : Cx) (G : Gx) (W : XK) (es : List Expr) (f : En → M (List D)) : Prop := PA X es (rdA G W f)
abbrev SS (X : Cx) (G : Gx) (W : XK) (st : Stmt) (f : En → M Fl) : Prop := PS X st (rdS G W f)
abbrev SSs (X : Cx) (G : Gx) (W : XK) (st : List Stmt) (f : En → M Fl) : Prop := PSs X st (rdS G W f)

section
variable {X : Cx} {G : Gx} {W : XK}
/-- from a value's reading on -/
theorem rdE_bind {α : Type} {f : En → M D} {k : En → D → M α} {σd : En} {S : Sto} {μ : Nat → Addr} {σ : L2.St} {H : Hp} {Q : α → Sto → (Nat → Addr) → Hp → Prop} {R : VK} (a : At G σd S μ σ H)
    (h : Post G μ S H W Q ((f σd >>= k σd) S)) (hk : ∀ d S1 μ1 H1 v, Stp G μ S H μ1 S1 H1 → At G σd S1 μ1 σ H1 → RV G μ1 S1.n H1 d v → Post G μ1 S1 H1 W Q (k σd d S1) → R v H1) : rdE G W f σ H R :=
  ⟨σd, S, μ, a, h.bind.mono fun d S1 μ1 H1 s q v r => hk d S1 μ1 H1 v s (a.step s) r q⟩
theorem rdT_bind {α : Type} {f : En → M Bool} {k : En → Bool → M α} {σd : En} {S : Sto} {μ : Nat → Addr} {σ : L2.St} {H : Hp} {Q : α → Sto → (Nat → Addr) → Hp → Prop} {R : Bool → Hp → Prop} (a : At G σd S μ σ H)
    (h : Post G μ S H W Q ((f σd >>= k σd) S)) (hk : ∀ d S1 μ1 H1, Stp G μ S H μ1 S1 H1 → At G σd S1 μ1 σ H1 → Post G μ1 S1 H1 W Q (k σd d S1) → R d H1) : rdT G W f σ H R :=
  ⟨σd, S, μ, a, h.bind.mono fun d S1 μ1 H1 s q => hk d S1 μ1 H1 s (a.step s) q⟩
theorem rdA_bind {α : Type} {f : En → M (List D)} {k : En → List D → M α} {σd : En} {S : Sto} {μ : Nat → Addr} {σ : L2.St} {H : Hp} {Q : α → Sto → (Nat → Addr) → Hp → Prop} {R : List V → Hp → Prop} (a : At G σd S μ σ H)
    (h : Post G μ S H W Q ((f σd >>= k σd) S)) (hk : ∀ d S1 μ1 H1 v, Stp G μ S H μ1 S1 H1 → At G σd S1 μ1 σ H1 → RVs G μ1 S1.n H1 d v → Post G μ1 S1 H1 W Q (k σd d S1) → R v H1) : rdA G W f σ H R :=
  ⟨σd, S, μ, a, h.bind.mono fun d S1 μ1 H1 s q v r => hk d S1 μ1 H1 v s (a.step s) r q⟩
/-- the outcome is at hand -/
theorem Post.here {α : Type} {μ : Nat → Addr} {S : Sto} {H : Hp} {Q : α → Sto → (Nat → Addr) → Hp → Prop} {a : α} (L : Lnk G μ S H) (h : Post G μ S H W Q (.ok a S)) : Q a S μ H := h μ H (.refl L)

/-! ### names and constants -/
def getV (i : Nat) (σ : En) : M D := match σ[i]? with
  | some (some d) => M.pure d
  | _ => M.stk
theorem se_var (i : Nat) {x : Str} {pos : Pos} (hN : X.N[i]? = some x := by rfl) (hv : Vis X.env.scope x := by first | exact Or.inl rfl | exact Or.inr (Or.inl rfl) | exact Or.inr (Or.inr rfl)) (hd : (x == ("__debug__" : Str)) = false := by decide)
    (hcd : (x == ("__classdict__" : Str)) = false := by decide) : SE X G W (.Name x pos) (getV i) := by
  refine pe_imp (pe_var hN hv hd hcd) fun σ H Q ⟨σd, S, μ, a, h⟩ => ?_
  unfold getV at h
  cases e : σd[i]? with
  | none => rw [e] at h; exact h.elim
  | some o =>
    rw [e] at h
    cases o with
    | none => exact h.elim
    | some d =>
      obtain ⟨v, h1, h2⟩ := a.en.at_ i d e
      exact ⟨v, h1, (Post.here a.lnk h) v h2⟩
def cst (d : D) : En → M D := fun _ => M.pure d
theorem rd_cst {d : D} {v : V} (hv : ∀ μ n H, RV G μ n H d v) : ∀ σ H Q, rdE G W (cst d) σ H Q → tC v σ H Q := fun σ H Q ⟨σd, S, μ, a, h⟩ => (Post.here a.lnk h) v (hv _ _ _)
theorem se_int {i j pos} : SE X G W (.Constant (.int i) j pos) (cst (.int i)) := pe_imp pe_int (rd_cst fun _ _ _ => rfl)
theorem se_bl {b j pos} : SE X G W (.Constant (.bool b) j pos) (cst (.bl b)) := pe_imp pe_bl (rd_cst fun _ _ _ => rfl)
theorem se_non {j pos} : SE X G W (.Constant .none j pos) (cst .non) := pe_imp pe_non (rd_cst fun _ _ _ => rfl)
theorem se_str {x j pos} : SE X G W (.Constant (.str x) j pos) (cst (.str x)) := pe_imp pe_str (rd_cst fun _ _ _ => rfl)
/-- a constant of the module -/
theorem se_glob {x : Str} {u : Value} {v : V} {d : D} {pos : Pos} (hg : Gl X x) (hm : X.mg x = some u) (r : RelV v u) (hv : ∀ μ n H, RV G μ n H d v) (hd : (x == ("__debug__" : Str)) = false := by decide) : SE X G W (.Name x pos) (cst d) :=
  pe_imp (pe_glob hg hm r hd) (rd_cst hv)

/-! ### operators -/
abbrev rd2 (G : Gx) (W : XK) (op : D → D → M D) : R2 := fun x y H Q => ∃ d e S μ, Lnk G μ S H ∧ RV G μ S.n H d x ∧ RV G μ S.n H e y ∧ Post G μ S H W (fun d S' μ' H' => ∀ v, RV G μ' S'.n H' d v → Q v H') (op d e S)
def OpD (X : Cx) (G : Gx) (W : XK) (f : Value → Value → Sem Value) (op : D → D → M D) : Prop := OpR X f (rd2 G W op)
def bin2 (op : D → D → M D) (fa fb : En → M D) : En → M D := fun σ => fa σ >>= fun x => fb σ >>= fun y => op x y
variable {a b c : Expr} {fa fb fc : En → M D} {op : D → D → M D} {pos : Pos}
theorem rd_bin2 {r : R2} (hr : ∀ x y H Q, rd2 G W op x y H Q → r x y H Q) : ∀ σ H Q, rdE G W (bin2 op fa fb) σ H Q → rdE G W fa σ H (fun x H1 => rdE G W fb σ H1 fun y H2 => r x y H2 Q) := fun σ H Q ⟨σd, S, μ, a, h⟩ => by
  refine rdE_bind (k := fun σ x => fb σ >>= fun y => op x y) a h fun d S1 μ1 H1 v s a1 rv h1 => ?_
  refine rdE_bind (k := fun _ y => op d y) a1 h1 fun e S2 μ2 H2 u s2 a2 ru h2 => ?_
  exact hr v u H2 Q ⟨d, e, S2, μ2, a2.lnk, s2.rv a1.lnk rv, ru, h2⟩
theorem se_op {o : Operator} (ho : OpD X G W (binaryOp o) op) (ha : SE X G W a fa) (hb : SE X G W b fb) : SE X G W (.BinOp a o b pos) (bin2 op fa fb) :=
  pe_imp (pe_op ho ha hb) (rd_bin2 fun _ _ _ _ h => h)
theorem se_cmp {o : CmpOp} (ho : OpD X G W (compareOp o) op) (ha : SE X G W a fa) (hb : SE X G W b fb) (hm : behindInMarks o b = false := by first | exact nobehind _ (by decide) (by decide) | rfl) : SE X G W (.Compare a [o] [b] pos) (bin2 op fa fb) :=
  pe_imp (pe_cmpR ho ha hb hm) (rd_bin2 fun _ _ _ _ h => h)
/-- a value that is a truth value, as a test -/
def asB (d : D) : M Bool := match d with
  | .bl b => M.pure b
  | _ => M.stk
def tst1 (f : En → M D) : En → M Bool := fun σ => f σ >>= asB
theorem rd_asB {Q : Bool → Hp → Prop} {d : D} {v : V} {μ : Nat → Addr} {S : Sto} {H : Hp} (L : Lnk G μ S H) (r : RV G μ S.n H d v) (h : Post G μ S H W (fun b _ _ H' => Q b H') (asB d S)) : ∃ k, v = .bl k ∧ Q k H := by
  unfold asB at h
  cases d with
  | bl b => exact ⟨b, r, Post.here L h⟩
  | _ => exact h.elim
theorem st_val (ha : SE X G W a fa) (he : ∀ whole, isTrue a X.env whole = (do let v ← whole; standAt a.pos; holding [v] (truthy v)) := by intro _; rfl) : STe X G W a (tst1 fa) := by
  refine pt_imp (pt_val ha he) fun σ H Q ⟨σd, S, μ, at_, h⟩ => ?_
  exact rdE_bind (k := fun _ => asB) at_ h fun d S1 μ1 H1 v s a1 rv h1 => rd_asB a1.lnk rv h1
theorem st_cmp {o : CmpOp} (ho : OpD X G W (compareOp o) op) (ha : SE X G W a fa) (hb : SE X G W b fb) (hm : behindInMarks o b = false := by first | exact nobehind _ (by decide) (by decide) | rfl) : STe X G W (.Compare a [o] [b] pos) (tst1 (bin2 op fa fb)) := by
  refine pt_imp (pt_cmpR ho ha hb hm) fun σ H Q ⟨σd, S, μ, at_, h⟩ => ?_
  have h1 : rdE G W (bin2 op fa fb) σ H (fun x H' => ∃ k, x = .bl k ∧ Q k H') := rdE_bind (k := fun _ => asB) at_ h fun d S1 μ1 H1 v s a1 rv h1 => rd_asB a1.lnk rv h1
  exact rd_bin2 (fun _ _ _ _ h => h) σ H _ h1
/-! ### and, or, not -/
variable {ta tb : En → M Bool} {rest : List Expr}
def andT (ta tb : En → M Bool) : En → M Bool := fun σ => ta σ >>= fun c => if c = true then tb σ else M.pure false
def orT (ta tb : En → M Bool) : En → M Bool := fun σ => ta σ >>= fun c => if c = true then M.pure true else tb σ
def notT (ta : En → M Bool) : En → M Bool := fun σ => ta σ >>= fun c => M.pure (!c)
theorem sw_and1 (ha : STe X G W a ta) : SW X G W (.BoolOp .And [a] pos) ta := pw_and1 ha
theorem sw_or1 (ha : STe X G W a ta) : SW X G W (.BoolOp .Or [a] pos) ta := pw_or1 ha
theorem sw_and (ha : STe X G W a ta) (hb : SW X G W (.BoolOp .And (b :: rest) pos) tb) : SW X G W (.BoolOp .And (a :: b :: rest) pos) (andT ta tb) := by
  refine pw_imp (pw_and ha hb) fun σ H Q ⟨σd, S, μ, at_, h⟩ => ?_
  refine rdT_bind (k := fun σ c => if c = true then tb σ else M.pure false) at_ h fun d S1 μ1 H1 s a1 h1 => ?_
  cases d with
  | true => exact ⟨σd, S1, μ1, a1, h1⟩
  | false => exact Post.here a1.lnk h1
theorem sw_or (ha : STe X G W a ta) (hb : SW X G W (.BoolOp .Or (b :: rest) pos) tb) : SW X G W (.BoolOp .Or (a :: b :: rest) pos) (orT ta tb) := by
  refine pw_imp (pw_or ha hb) fun σ H Q ⟨σd, S, μ, at_, h⟩ => ?_
  refine rdT_bind (k := fun σ c => if c = true then M.pure true else tb σ) at_ h fun d S1 μ1 H1 s a1 h1 => ?_
  cases d with
  | true => exact Post.here a1.lnk h1
  | false => exact ⟨σd, S1, μ1, a1, h1⟩
theorem st_not (ha : STe X G W a ta) : STe X G W (.UnaryOp .Not a pos) (notT ta) := by
  refine pt_imp (pt_not ha) fun σ H Q ⟨σd, S, μ, at_, h⟩ => ?_
  exact rdT_bind (k := fun _ c => M.pure (!c)) at_ h fun d S1 μ1 H1 s a1 h1 => Post.here a1.lnk h1
/-- .. as values, of truth values -/
def andV (fa fb : En → M D) : En → M D := fun σ => fa σ >>= fun x => asB x >>= fun c => if c = true then fb σ else M.pure (.bl false)
def orV (fa fb : En → M D) : En → M D := fun σ => fa σ >>= fun x => asB x >>= fun c => if c = true then M.pure (.bl true) else fb σ
def notV (fa : En → M D) : En → M D := fun σ => fa σ >>= fun x => asB x >>= fun c => M.pure (.bl (!c))
theorem se_one {o : BoolOp} (ha : SE X G W a fa) : SE X G W (.BoolOp o [a] pos) fa := pe_one ha
theorem se_and (ha : SE X G W a fa) (hb : SE X G W (.BoolOp .And (b :: rest) pos) fb) : SE X G W (.BoolOp .And (a :: b :: rest) pos) (andV fa fb) := by
  refine pe_imp (pe_and ha hb) fun σ H Q ⟨σd, S, μ, at_, h⟩ => ?_
  refine rdE_bind (k := fun σ x => asB x >>= fun c => if c = true then fb σ else M.pure (.bl false)) at_ h fun d S1 μ1 H1 v s a1 rv h1 => ?_
  cases d with
  | bl c =>
    refine ⟨c, rv, ?_⟩
    cases c with
    | true => exact ⟨σd, S1, μ1, a1, h1⟩
    | false => exact (Post.here a1.lnk h1) _ rfl
  | _ => exact h1.elim
theorem se_or (ha : SE X G W a fa) (hb : SE X G W (.BoolOp .Or (b :: rest) pos) fb) : SE X G W (.BoolOp .Or (a :: b :: rest) pos) (orV fa fb) := by
  refine pe_imp (pe_or ha hb) fun σ H Q ⟨σd, S, μ, at_, h⟩ => ?_
  refine rdE_bind (k := fun σ x => asB x >>= fun c => if c = true then M.pure (.bl true) else fb σ) at_ h fun d S1 μ1 H1 v s a1 rv h1 => ?_
  cases d with
  | bl c =>
    refine ⟨c, rv, ?_⟩
    cases c with
    | true => exact (Post.here a1.lnk h1) _ rfl
    | false => exact ⟨σd, S1, μ1, a1, h1⟩
  | _ => exact h1.elim
theorem se_not (ha : SE X G W a fa) : SE X G W (.UnaryOp .Not a pos) (notV fa) := by
  refine pe_imp (pe_not ha) fun σ H Q ⟨σd, S, μ, at_, h⟩ => ?_
  refine rdE_bind (k := fun σ x => asB x >>= fun c => M.pure (D.bl (!c))) at_ h fun d S1 μ1 H1 v s a1 rv h1 => ?_
  cases d with
  | bl c => exact ⟨c, rv, (Post.here a1.lnk h1) _ rfl⟩
  | _ => exact h1.elim
def ifV (t : En → M Bool) (fa fb : En → M D) : En → M D := fun σ => t σ >>= fun c => if c = true then fa σ else fb σ
theorem se_if (hc : STe X G W c ta) (ha : SE X G W a fa) (hb : SE X G W b fb) : SE X G W (.IfExp c a b pos) (ifV ta fa fb) := by
  refine pe_imp (pe_ifExp hc ha hb) fun σ H Q ⟨σd, S, μ, at_, h⟩ => ?_
  refine rdT_bind (k := fun σ c => if c = true then fa σ else fb σ) at_ h fun d S1 μ1 H1 s a1 h1 => ?_
  cases d with
  | true => exact ⟨σd, S1, μ1, a1, h1⟩
  | false => exact ⟨σd, S1, μ1, a1, h1⟩
/-! ### argument lists -/
def nilA : En → M (List D) := fun _ => M.pure []
def consA (fa : En → M D) (fr : En → M (List D)) : En → M (List D) := fun σ => fa σ >>= fun x => fr σ >>= fun xs => M.pure (x :: xs)
variable {es : List Expr} {fr : En → M (List D)}
theorem sa_nil : SA X G W [] nilA := pa_imp pa_nil fun σ H Q ⟨σd, S, μ, at_, h⟩ => (Post.here at_.lnk h) [] rfl
theorem sa_cons (ha : SE X G W a fa) (hr : SA X G W es fr) (hs : starEach (a :: es) X.env = (false, eval a X.env) :: starEach es X.env := by rfl) : SA X G W (a :: es) (consA fa fr) := by
  refine pa_imp (pa_cons ha hr hs) fun σ H Q ⟨σd, S, μ, at_, h⟩ => ?_
  refine rdE_bind (k := fun σ x => fr σ >>= fun xs => M.pure (x :: xs)) at_ h fun d S1 μ1 H1 v s a1 rv h1 => ?_
  refine rdA_bind (k := fun _ xs => M.pure (d :: xs)) a1 h1 fun ds S2 μ2 H2 vs s2 a2 rvs h2 => ?_
  exact (Post.here a2.lnk h2) (v :: vs) ⟨v, vs, rfl, s2.rv a1.lnk rv, rvs⟩
end
end Fd

set_option Elab.async false
set_option linter.all false
set_option maxRecDepth 100000
set_option maxHeartbeats 1000000
namespace Fd
open PySem PySem.Spec PyProof.Rows L2
/-! ### the store's steps -/
section
variable {G : Gx} {μ : Nat → Addr} {S : Sto} {H : Hp}
theorem RVf.mono {μ' : Nat → Addr} {n n' : Nat} {H' : Hp} (g : Grow μ n H μ' n' H') (tf : TupFree μ n H) {fs : List (Str × D)} {vs : List (Str × V)} (h : RVf G μ n H fs vs) : RVf G μ' n' H' fs vs :=
  Paired.mapP h fun _ _ z => ⟨z.1, z.2.mono g tf⟩
theorem LO.mono {μ' : Nat → Addr} {n n' : Nat} {H' : Hp} {b : Bool} {a : Addr} (g : Grow μ n H μ' n' H') (tf : TupFree μ n H) (e : H' a = H a) : ∀ {o : SO}, LO G μ n H b a o → LO G μ' n' H' b a o
  | .lst ds, ⟨vs, h1, h2⟩ => ⟨vs, by unfold Held at *; rw [e]; exact h1, h2.mono g tf⟩
  | .dct t kvs, ⟨vs, o, h1, h2, h3⟩ => ⟨vs, o, by unfold Held at *; rw [e]; exact h1, h2, h3.mono g tf⟩
  | .ins c fs, ⟨dx, fs', h1, h2⟩ => ⟨dx, fs', by rw [e]; exact h1, RVf.mono g tf h2⟩
/-- a new object that is not of the store -/
theorem Stp.new (L : Lnk G μ S H) {p : Addr} {o : HO} (hp : H p = none) : Stp G μ S H μ S (upd H p o) := by
  have g : Grow μ S.n H μ S.n (upd H p o) := by
    refine ⟨.refl _ _, fun l h1 h2 => absurd h2 (by omega), fun a u e _ _ => ?_, fun a od u e => ?_, fun a u e nt => ?_⟩
    · rw [upd_ne (ne_of_none e hp)]; exact e
    · rw [upd_ne (ne_of_none e hp)]; exact e
    · exact ⟨u, by rw [upd_ne (ne_of_none e hp)]; exact e, nt⟩
  refine ⟨⟨L.inj, fun l u e => ?_, G.tst _ _ (fun b u e _ => by rw [upd_ne (ne_of_none e hp)]; exact e) L.tab, L.lk⟩, g⟩
  have h := L.ob l u e
  obtain ⟨w, hw, _⟩ := h.hd
  exact h.mono g L.tf (upd_ne (ne_of_none hw hp))
def putMu (μ : Nat → Addr) (n : Nat) (p : Addr) : Nat → Addr := fun l => if l = n then p else μ l
theorem putMu_same {n : Nat} {p : Addr} : putMu μ n p n = p := if_pos rfl
theorem putMu_ne {n l : Nat} {p : Addr} (h : l ≠ n) : putMu μ n p l = μ l := if_neg h
abbrev Sto.push (S : Sto) (o : SO) : Sto := { S with objs := S.objs ++ [o] }
theorem Sto.push_n (o : SO) : (S.push o).n = S.n + 1 := by
  show (S.objs ++ [o]).length = _
  rw [List.length_append]; rfl
theorem grow_own (L : Lnk G μ S H) {p : Addr} {u : HO} (hp : H p = none) : Grow μ S.n H (putMu μ S.n p) (S.n + 1) (upd H p u) := by
  refine ⟨⟨Nat.le_succ _, fun l hl => putMu_ne (Nat.ne_of_lt hl)⟩, fun l h1 h2 o e => ?_, fun a u e _ _ => ?_, fun a od u e => ?_, fun a u e nt => ?_⟩
  · have : l = S.n := by omega
    subst this
    rw [putMu_same, hp] at e; cases e
  · rw [upd_ne (ne_of_none e hp)]; exact e
  · rw [upd_ne (ne_of_none e hp)]; exact e
  · exact ⟨u, by rw [upd_ne (ne_of_none e hp)]; exact e, nt⟩
/-- a new object of the store -/
theorem Stp.own (L : Lnk G μ S H) {p : Addr} {u : HO} {o : SO} (hp : H p = none) (h : LO G (putMu μ S.n p) (S.n + 1) (upd H p u) false p o) : Stp G μ S H (putMu μ S.n p) (S.push o) (upd H p u) := by
  have g := grow_own (u := u) L hp
  have lt : ∀ l, l < (S.push o).n → l < S.n ∨ l = S.n := fun l hl => by rw [Sto.push_n] at hl; omega
  have noP : ∀ l, l < S.n → μ l ≠ p := fun l hl e => by
    obtain ⟨o1, e1⟩ := getE_of_lt hl
    obtain ⟨w, hw, _⟩ := (L.ob l o1 e1).hd
    rw [e, hp] at hw; cases hw
  refine ⟨⟨fun l hl l' hl' e => ?_, fun l ob e => ?_, G.tst _ _ (fun b u e _ => by rw [upd_ne (ne_of_none e hp)]; exact e) L.tab, fun l hl => ?_⟩, by rw [Sto.push_n]; exact g⟩
  · rcases lt l hl with h1 | h1 <;> rcases lt l' hl' with h2 | h2
    · rw [putMu_ne (Nat.ne_of_lt h1), putMu_ne (Nat.ne_of_lt h2)] at e
      exact L.inj l h1 l' h2 e
    · rw [putMu_ne (Nat.ne_of_lt h1), h2, putMu_same] at e
      exact absurd e (noP l h1)
    · rw [h1, putMu_same, putMu_ne (Nat.ne_of_lt h2)] at e
      exact absurd e.symm (noP l' h2)
    · rw [h1, h2]
  · rw [Sto.push_n]
    by_cases hl : l < S.n
    · have e' : S.objs[l]? = some ob := by
        have z : (S.objs ++ [o])[l]? = some ob := e
        rwa [List.getElem?_append_left hl] at z
      rw [putMu_ne (Nat.ne_of_lt hl)]
      have h := L.ob l ob e'
      obtain ⟨w, hw, _⟩ := h.hd
      exact h.mono g L.tf (upd_ne (ne_of_none hw hp))
    · have hl2 : l = S.n := by
        have z := (List.getElem?_eq_some_iff.mp e).1
        have z : l < (S.push o).n := z
        rw [Sto.push_n] at z; omega
      subst hl2
      have e' : o = ob := by
        have z : (S.objs ++ [o])[S.objs.length]? = some ob := e
        simpa using z
      subst e'
      have nl : (S.push o).locked S.n = false := by
        cases q : (S.push o).locked S.n with
        | false => rfl
        | true =>
          have z : S.n ∈ S.lck := by simpa [Sto.locked] using q
          exact absurd (L.lk _ z) (Nat.lt_irrefl _)
      rw [nl, putMu_same]
      exact h
  · rw [Sto.push_n]
    exact Nat.lt_succ_of_lt (L.lk l hl)
abbrev Sto.put (S : Sto) (l : Nat) (o : SO) : Sto := { S with objs := S.objs.set l o }
theorem Sto.put_n (l : Nat) (o : SO) : (S.put l o).n = S.n := by
  show (S.objs.set l o).length = _
  rw [List.length_set]
theorem grow_put (L : Lnk G μ S H) {l : Nat} {u : HO} {w : HO} (hl : l < S.n) (hw : H (μ l) = some w) (nf : ∀ od z, w ≠ .frz od z) (nt : ∀ ps, u ≠ .tbl ps) : Grow μ S.n H μ S.n (upd H (μ l) u) := by
  refine ⟨.refl _ _, fun i h1 h2 => absurd h2 (by omega), fun a z e na _ => ?_, fun a od z e => ?_, fun a z e ntz => ?_⟩
  · rw [upd_ne (fun q => na l hl q.symm)]; exact e
  · rw [upd_ne (fun q => by rw [q, hw] at e; cases e; exact nf _ _ rfl)]; exact e
  · by_cases q : a = μ l
    · exact ⟨u, by rw [q, upd_same], nt⟩
    · exact ⟨z, by rw [upd_ne q]; exact e, ntz⟩
/-- an object of the store changed -/
theorem Stp.put (L : Lnk G μ S H) {l : Nat} {u w : HO} {o : SO} (hl : l < S.n) (hk : S.locked l = false) (hw : H (μ l) = some w) (nf : ∀ od z, w ≠ .frz od z) (nt : ∀ ps, w ≠ .tbl ps) (nx : ∀ φ, w ≠ .ext φ) (nu : ∀ ps, u ≠ .tbl ps)
    (h : LO G μ S.n (upd H (μ l) u) false (μ l) o) : Stp G μ S H μ (S.put l o) (upd H (μ l) u) := by
  have g := grow_put (u := u) L hl hw nf nu
  refine ⟨⟨fun i hi j hj e => L.inj i (by rwa [Sto.put_n] at hi) j (by rwa [Sto.put_n] at hj) e, fun i ob e => ?_, G.tst _ _ (fun b z e hz => ?_) L.tab, fun i hi => by rw [Sto.put_n]; exact L.lk i hi⟩, by rw [Sto.put_n]; exact g⟩
  · rw [Sto.put_n]
    have e : (S.objs.set l o)[i]? = some ob := e
    by_cases hi : l = i
    · subst hi
      rw [List.getElem?_set_self hl] at e
      cases e
      show LO G μ S.n _ (S.locked l) _ _
      rw [hk]; exact h
    · rw [List.getElem?_set_ne hi] at e
      have hli : i < S.n := (List.getElem?_eq_some_iff.mp e).1
      exact (L.ob i ob e).mono g L.tf (upd_ne fun q => hi (L.inj i hli l hl q).symm)
  · rw [upd_ne (fun q => ?_)]
    · exact e
    · rw [q, hw] at e
      cases e
      rcases hz with ⟨ps, rfl⟩ | ⟨φ, rfl⟩
      · exact nt _ rfl
      · exact nx _ rfl
end
end Fd

set_option Elab.async false
set_option linter.all false
set_option maxRecDepth 100000
set_option maxHeartbeats 1000000
namespace Fd
open PySem PySem.Spec PyProof.Rows L2
section
variable {G : Gx} {μ : Nat → Addr} {S : Sto} {H : Hp}
/-! ### what is read -/
/-- a list, of the store or not -/
def seqL (S : Sto) : D → Option (List D)
  | .lst ds => some ds
  | .ref l => match S.objs[l]? with
    | some (.lst ds) => some ds
    | _ => none
  | _ => none
theorem seqL_ok (L : Lnk G μ S H) {d : D} {v : V} {ds : List D} (r : RV G μ S.n H d v) (e : seqL S d = some ds) : ∃ a vs, v = .ref a ∧ Rd H a (.lst vs) ∧ RVs G μ S.n H ds vs := by
  cases d with
  | lst xs =>
    cases e
    obtain ⟨a, vs, h1, _, h3, h4⟩ := r
    exact ⟨a, vs, h1, .inl h3, h4⟩
  | ref l =>
    obtain ⟨h1, h2⟩ := r
    obtain ⟨o, eo⟩ := getE_of_lt h1
    have e : (match S.objs[l]? with | some (.lst ds) => some ds | _ => none) = some ds := e
    rw [eo] at e
    cases o with
    | lst xs =>
      cases e
      obtain ⟨vs, q1, q2⟩ := L.ob l _ eo
      exact ⟨_, vs, h2, q1.rd, q2⟩
    | dct _ _ => cases e
    | ins _ _ => cases e
  | _ => cases e
/-- .. that is not locked -/
def seqU (S : Sto) : D → Option (List D)
  | .lst ds => some ds
  | .ref l => if S.locked l = true then none else match S.objs[l]? with
    | some (.lst ds) => some ds
    | _ => none
  | _ => none
theorem seqU_ok (L : Lnk G μ S H) {d : D} {v : V} {ds : List D} (r : RV G μ S.n H d v) (e : seqU S d = some ds) : ∃ a vs, v = .ref a ∧ H a = some (.lst vs) ∧ RVs G μ S.n H ds vs := by
  cases d with
  | lst xs =>
    cases e
    obtain ⟨a, vs, h1, _, h3, h4⟩ := r
    exact ⟨a, vs, h1, h3, h4⟩
  | ref l =>
    obtain ⟨h1, h2⟩ := r
    obtain ⟨o, eo⟩ := getE_of_lt h1
    have e : (if S.locked l = true then none else match S.objs[l]? with | some (.lst ds) => some ds | _ => none) = some ds := e
    rw [eo] at e
    by_cases hl : S.locked l = true
    · rw [if_pos hl] at e; cases e
    · rw [if_neg hl] at e
      cases o with
      | lst xs =>
        cases e
        obtain ⟨vs, q1, q2⟩ := L.ob l _ eo
        refine ⟨_, vs, h2, ?_, q2⟩
        have hf : S.locked l = false := by simpa using hl
        rw [hf] at q1
        exact q1
      | dct _ _ => cases e
      | ins _ _ => cases e
  | _ => cases e
def tupD : D → Option (List D)
  | .tup ds => some ds
  | .kt ds => some ds
  | .ft ds => some ds
  | _ => none
theorem tupD_ok {n : Nat} {d : D} {v : V} {ds : List D} (r : RV G μ n H d v) (e : tupD d = some ds) : ∃ a vs, v = .ref a ∧ SqT G.K H a vs ∧ RVs G μ n H ds vs := by
  cases d with
  | tup xs =>
    cases e
    obtain ⟨a, vs, h1, h2, h3⟩ := r
    exact ⟨a, vs, h1, .of h2, h3⟩
  | kt xs =>
    cases e
    obtain ⟨a, vs, h1, h2, h3⟩ := r
    exact ⟨a, vs, h1, .inr h2, h3⟩
  | ft xs =>
    cases e
    obtain ⟨a, vs, od, h1, _, h2, _, h3⟩ := r
    exact ⟨a, vs, h1, .inl (.inr ⟨od, h2⟩), h3⟩
  | _ => cases e
theorem notOwn_new (L : Lnk G μ S H) {p : Addr} (hp : H p = none) : NotOwn μ S.n p := fun l hl e => by
  obtain ⟨o, eo⟩ := getE_of_lt hl
  obtain ⟨w, hw, _⟩ := (L.ob l o eo).hd
  rw [e, hp] at hw; cases hw
/-! ### new things -/
theorem new_tup (L : Lnk G μ S H) {p : Addr} {ds : List D} {vs : List V} (hp : H p = none) (r : RVs G μ S.n H ds vs) : RV G μ S.n (upd H p (.tup vs)) (.tup ds) (.ref p) :=
  ⟨p, vs, rfl, upd_same, r.mono (Stp.new L hp).grow L.tf⟩
theorem new_lst (L : Lnk G μ S H) {p : Addr} {ds : List D} {vs : List V} (hp : H p = none) (r : RVs G μ S.n H ds vs) : RV G μ S.n (upd H p (.lst vs)) (.lst ds) (.ref p) :=
  ⟨p, vs, rfl, notOwn_new L hp, upd_same, r.mono (Stp.new L hp).grow L.tf⟩
theorem own_lst (L : Lnk G μ S H) {p : Addr} {ds : List D} {vs : List V} (hp : H p = none) (r : RVs G μ S.n H ds vs) : Stp G μ S H (putMu μ S.n p) (S.push (.lst ds)) (upd H p (.lst vs)) :=
  Stp.own L hp ⟨vs, upd_same, r.mono (grow_own L hp) L.tf⟩
theorem rv_own {p : Addr} {o : SO} {H' : Hp} : RV G (putMu μ S.n p) (S.push o).n H' (.ref S.n) (.ref p) := ⟨by rw [Sto.push_n]; exact Nat.lt_succ_self _, by rw [putMu_same]⟩
theorem Post.step {α : Type} {W : XK} {Q : α → Sto → (Nat → Addr) → Hp → Prop} {a : α} {S' : Sto} {μ' : Nat → Addr} {H' : Hp} (s : Stp G μ S H μ' S' H') (h : Post G μ S H W Q (.ok a S')) : Q a S' μ' H' := h μ' H' s
end

section
variable {X : Cx} {G : Gx} {W : XK} {es : List Expr} {fr : En → M (List D)} {pos : Pos}
/-! ### displays -/
def tupV (fr : En → M (List D)) : En → M D := fun σ => fr σ >>= fun ds => if ds.length ≤ sizeLine then M.pure (D.tup ds) else M.stk
def lstV (fr : En → M (List D)) : En → M D := fun σ => fr σ >>= fun ds => if ds.length ≤ sizeLine then M.pure (D.lst ds) else M.stk
/-- a new list of the store -/
def newL (ds : List D) : M D := fun S => .ok (.ref S.n) (S.push (.lst ds))
def lstO (fr : En → M (List D)) : En → M D := fun σ => fr σ >>= fun ds => if ds.length ≤ sizeLine then newL ds else M.stk
theorem se_tup {x1} (h : SA X G W es fr) : SE X G W (.Tuple es x1 pos) (tupV fr) := by
  refine pe_imp (pe_tup h) fun σ H Q ⟨σd, S, μ, at_, q⟩ => ?_
  refine rdA_bind (k := fun _ ds => if ds.length ≤ sizeLine then M.pure (D.tup ds) else M.stk) at_ q fun ds S1 μ1 H1 vs s a1 r h1 => ?_
  by_cases hz : ds.length ≤ sizeLine
  · rw [if_pos hz] at h1
    exact ⟨by rw [← r.length]; exact hz, fun p hp => Post.step (Stp.new a1.lnk hp) h1 _ (new_tup a1.lnk hp r)⟩
  · rw [if_neg hz] at h1; exact h1.elim
theorem se_lstV (h : SA X G W es fr) : SE X G W (.List es pos) (lstV fr) := by
  refine pe_imp (pe_lst h) fun σ H Q ⟨σd, S, μ, at_, q⟩ => ?_
  refine rdA_bind (k := fun _ ds => if ds.length ≤ sizeLine then M.pure (D.lst ds) else M.stk) at_ q fun ds S1 μ1 H1 vs s a1 r h1 => ?_
  by_cases hz : ds.length ≤ sizeLine
  · rw [if_pos hz] at h1
    exact ⟨by rw [← r.length]; exact hz, fun p hp => Post.step (Stp.new a1.lnk hp) h1 _ (new_lst a1.lnk hp r)⟩
  · rw [if_neg hz] at h1; exact h1.elim
theorem se_lstO (h : SA X G W es fr) : SE X G W (.List es pos) (lstO fr) := by
  refine pe_imp (pe_lst h) fun σ H Q ⟨σd, S, μ, at_, q⟩ => ?_
  refine rdA_bind (k := fun _ ds => if ds.length ≤ sizeLine then newL ds else M.stk) at_ q fun ds S1 μ1 H1 vs s a1 r h1 => ?_
  by_cases hz : ds.length ≤ sizeLine
  · rw [if_pos hz] at h1
    exact ⟨by rw [← r.length]; exact hz, fun p hp => Post.step (own_lst a1.lnk hp r) h1 _ rv_own⟩
  · rw [if_neg hz] at h1; exact h1.elim

/-! ### operators on values -/
theorem opD_or {f : Value → Value → Sem Value} {o o' : D → D → M D} (h : OpD X G W f o) (h' : OpD X G W f o') (c : D → D → Bool) : OpD X G W f (fun x y => if c x y = true then o x y else o' x y) := fun pins s σ H x y v u Q I rx ry ⟨d, e, S, μ, L, r1, r2, p⟩ => by
  have p : Post G μ S H W (fun d S' μ' H' => ∀ v, RV G μ' S'.n H' d v → Q v H') ((if c d e = true then o d e else o' d e) S) := p
  by_cases hc : c d e = true
  · rw [if_pos hc] at p
    exact h pins s σ H x y v u Q I rx ry ⟨d, e, S, μ, L, r1, r2, p⟩
  · rw [if_neg hc] at p
    exact h' pins s σ H x y v u Q I rx ry ⟨d, e, S, μ, L, r1, r2, p⟩
/-- two ints -/
def ii (C : Int → Int → Bool) (g : Int → Int → D) : D → D → M D := fun x y => match x, y with
  | .int i, .int j => if C i j = true then M.pure (g i j) else M.stk
  | _, _ => M.stk
theorem rd_ii {C : Int → Int → Bool} {C' : Int → Int → Prop} {g : Int → Int → D} {g' : Int → Int → V} (hC : ∀ i j, C i j = true → C' i j) (hg : ∀ i j μ n H, RV G μ n H (g i j) (g' i j)) : ∀ x y H Q, rd2 G W (ii C g) x y H Q → rI C' g' x y H Q := fun x y H Q ⟨d, e, S, μ, L, r1, r2, p⟩ => by
  unfold ii at p
  cases d with
  | int i =>
    cases e with
    | int j =>
      have r1 : x = .int i := r1
      have r2 : y = .int j := r2
      subst r1 r2
      by_cases hc : C i j = true
      · simp only [hc, if_true] at p
        exact ⟨i, j, rfl, rfl, hC i j hc, (Post.here L p) _ (hg _ _ _ _ _)⟩
      · simp only [hc, if_false] at p
        exact p.elim
    | _ => exact p.elim
  | _ => exact p.elim
theorem rd_ii0 {g : Int → Int → D} {g' : Int → Int → V} (hg : ∀ i j μ n H, RV G μ n H (g i j) (g' i j)) : ∀ x y H Q, rd2 G W (ii (fun _ _ => true) g) x y H Q → rI0 g' x y H Q := fun x y H Q h => by
  obtain ⟨i, j, e1, e2, _, q⟩ := rd_ii (C' := fun _ _ => True) (fun _ _ _ => True.intro) hg x y H Q h
  exact ⟨i, j, e1, e2, q⟩
def addI : D → D → M D := ii (fun _ _ => true) fun i j => .int (i + j)
def subI : D → D → M D := ii (fun _ _ => true) fun i j => .int (i - j)
def mulI : D → D → M D := ii (fun i j => (decide (-(2 ^ 64) < i) && decide (i < 2 ^ 64)) || (decide (-(2 ^ 64) < j) && decide (j < 2 ^ 64))) fun i j => .int (i * j)
def modI : D → D → M D := ii (fun _ j => decide (0 < j)) fun i j => .int (i % j)
def fdvI : D → D → M D := ii (fun _ j => decide (0 < j) && decide (j < 1073741824)) fun i j => .int (i / j)
def ltI : D → D → M D := ii (fun _ _ => true) fun i j => .bl (decide (i < j))
def leI : D → D → M D := ii (fun _ _ => true) fun i j => .bl (decide (i ≤ j))
def gtI : D → D → M D := ii (fun _ _ => true) fun i j => .bl (decide (j < i))
def geI : D → D → M D := ii (fun _ _ => true) fun i j => .bl (decide (j ≤ i))
theorem od_addI : OpD X G W (binaryOp .Add) addI := opR_imp op_add (rd_ii0 fun _ _ _ _ _ => rfl)
theorem od_subI : OpD X G W (binaryOp .Sub) subI := opR_imp op_sub (rd_ii0 fun _ _ _ _ _ => rfl)
theorem od_mulI : OpD X G W (binaryOp .Mult) mulI := opR_imp op_mul (rd_ii (fun i j h => by
  simp only [Bool.or_eq_true, Bool.and_eq_true, decide_eq_true_eq] at h
  exact h) fun _ _ _ _ _ => rfl)
theorem od_modI : OpD X G W (binaryOp .Mod) modI := opR_imp op_mod (rd_ii (fun _ _ h => of_decide_eq_true h) fun _ _ _ _ _ => rfl)
theorem od_fdvI : OpD X G W (binaryOp .FloorDiv) fdvI := opR_imp op_fdiv (rd_ii (fun i j h => by
  simp only [Bool.and_eq_true, decide_eq_true_eq] at h
  exact h) fun _ _ _ _ _ => rfl)
theorem od_ltI : OpD X G W (compareOp .Lt) ltI := opR_imp op_lt (rd_ii0 fun _ _ _ _ _ => rfl)
theorem od_leI : OpD X G W (compareOp .LtE) leI := opR_imp op_le (rd_ii0 fun _ _ _ _ _ => rfl)
theorem od_gtI : OpD X G W (compareOp .Gt) gtI := opR_imp op_gt (rd_ii0 fun _ _ _ _ _ => rfl)
theorem od_geI : OpD X G W (compareOp .GtE) geI := opR_imp op_ge (rd_ii0 fun _ _ _ _ _ => rfl)
def iaddI : D → D → M D := addI
theorem od_iaddI : OpD X G W (inplaceOp .Add) addI := opR_imp iop_add (rd_ii0 fun _ _ _ _ _ => rfl)
theorem od_isubI : OpD X G W (inplaceOp .Sub) subI := opR_imp iop_sub (rd_ii0 fun _ _ _ _ _ => rfl)
/-- texts -/
def addS : D → D → M D := fun x y => match x, y with
  | .str i, .str j => if i.length + j.length ≤ sizeLine then M.pure (.str (i ++ j)) else M.stk
  | _, _ => M.stk
theorem od_addS : OpD X G W (binaryOp .Add) addS := opR_imp op_add_str fun x y H Q ⟨d, e, S, μ, L, r1, r2, p⟩ => by
  unfold addS at p
  cases d with
  | str i =>
    cases e with
    | str j =>
      have r1 : x = .str i := r1
      have r2 : y = .str j := r2
      subst r1 r2
      by_cases hc : i.length + j.length ≤ sizeLine
      · simp only [hc, if_true] at p
        exact ⟨i, j, rfl, rfl, hc, (Post.here L p) _ rfl⟩
      · simp only [hc, if_false] at p
        exact p.elim
    | _ => exact p.elim
  | _ => exact p.elim
theorem RVs.append {μ : Nat → Addr} {n : Nat} {H : Hp} : ∀ {ds es : List D} {vs us : List V}, RVs G μ n H ds vs → RVs G μ n H es us → RVs G μ n H (ds ++ es) (vs ++ us)
  | [], _, _, _, h, h' => by
    have h : _ = _ := h
    subst h; exact h'
  | d :: ds, es, _, us, ⟨v, r, e, h1, h2⟩, h' => by
    subst e
    exact ⟨v, r ++ us, rfl, h1, RVs.append h2 h'⟩
/-- lists -/
def addL : D → D → M D := fun x y S => match seqU S x, seqU S y with
  | some xs, some ys => if xs.length + ys.length ≤ sizeLine then .ok (.lst (xs ++ ys)) S else .stk
  | _, _ => .stk
theorem od_addL : OpD X G W (binaryOp .Add) addL := opR_imp op_cat fun x y H Q ⟨d, e, S, μ, L, r1, r2, p⟩ => by
  unfold addL at p
  cases e1 : seqU S d with
  | none => rw [e1] at p; exact p.elim
  | some xs =>
    cases e2 : seqU S e with
    | none => rw [e1, e2] at p; exact p.elim
    | some ys =>
      rw [e1, e2] at p
      obtain ⟨a, vs, rfl, h1, q1⟩ := seqU_ok L r1 e1
      obtain ⟨b, us, rfl, h2, q2⟩ := seqU_ok L r2 e2
      by_cases hc : xs.length + ys.length ≤ sizeLine
      · simp only [hc, if_true] at p
        exact ⟨a, b, vs, us, rfl, rfl, h1, h2, by rw [← q1.length, ← q2.length]; exact hc, fun q hq => Post.step (Stp.new L hq) p _ (new_lst L hq (q1.append q2))⟩
      · simp only [hc, if_false] at p
        exact p.elim
/-- tuples -/
def addT : D → D → M D := fun x y => match x, y with
  | .tup xs, .tup ys => if xs.length + ys.length ≤ sizeLine then M.pure (.tup (xs ++ ys)) else M.stk
  | _, _ => M.stk
theorem od_addT : OpD X G W (binaryOp .Add) addT := opR_imp op_catA fun x y H Q ⟨d, e, S, μ, L, r1, r2, p⟩ => by
  unfold addT at p
  cases d with
  | tup xs =>
    cases e with
    | tup ys =>
      obtain ⟨a, vs, rfl, h1, q1⟩ := r1
      obtain ⟨b, us, rfl, h2, q2⟩ := r2
      by_cases hc : xs.length + ys.length ≤ sizeLine
      · simp only [hc, if_true] at p
        refine ⟨a, b, vs, us, rfl, rfl, .of h1, .of h2, by rw [← q1.length, ← q2.length]; exact hc, fun e0 => ?_, fun _ e0 => ?_, fun _ _ p' hp => ?_⟩
        · subst e0
          have : xs = [] := List.eq_nil_of_length_eq_zero (by rw [q1.length]; rfl)
          subst this
          exact (Post.here L p) _ ⟨b, us, rfl, h2, q2⟩
        · subst e0
          have : ys = [] := List.eq_nil_of_length_eq_zero (by rw [q2.length]; rfl)
          subst this
          rw [List.append_nil] at p
          exact (Post.here L p) _ ⟨a, vs, rfl, h1, q1⟩
        · exact Post.step (Stp.new L hp) p _ (new_tup L hp (q1.append q2))
      · simp only [hc, if_false] at p
        exact p.elim
    | _ => exact p.elim
  | _ => exact p.elim
/-- is None -/
def isNonD : D → Bool
  | .non => true
  | _ => false
def isN : D → D → M D := fun x y => match y with
  | .non => M.pure (.bl (isNonD x))
  | _ => M.stk
def isnotN : D → D → M D := fun x y => match y with
  | .non => M.pure (.bl (!isNonD x))
  | _ => M.stk
theorem rv_non {μ : Nat → Addr} {n : Nat} {H : Hp} {d : D} {v : V} (r : RV G μ n H d v) : decide (v = .non) = isNonD d := by
  cases d with
  | non => exact decide_eq_true r
  | bl _ => exact decide_eq_false fun e => by rw [e] at r; cases r
  | int _ => exact decide_eq_false fun e => by rw [e] at r; cases r
  | str _ => exact decide_eq_false fun e => by rw [e] at r; cases r
  | tup _ => obtain ⟨_, _, e, _⟩ := r; subst e; exact decide_eq_false fun e => by cases e
  | lst _ => obtain ⟨_, _, e, _⟩ := r; subst e; exact decide_eq_false fun e => by cases e
  | kt _ => obtain ⟨_, _, e, _⟩ := r; subst e; exact decide_eq_false fun e => by cases e
  | dct _ _ => obtain ⟨_, _, _, _, e, _⟩ := r; subst e; exact decide_eq_false fun e => by cases e
  | ref _ => obtain ⟨_, e⟩ := r; subst e; exact decide_eq_false fun e => by cases e
  | kl _ => obtain ⟨_, _, e, _⟩ := r; subst e; exact decide_eq_false fun e => by cases e
  | ft _ => obtain ⟨_, _, _, e, _⟩ := r; subst e; exact decide_eq_false fun e => by cases e
  | lam _ => obtain ⟨_, _, _, _, e, _⟩ := r; subst e; exact decide_eq_false fun e => by cases e
theorem od_isN : OpD X G W (compareOp .Is) isN := opR_imp op_isN fun x y H Q ⟨d, e, S, μ, L, r1, r2, p⟩ => by
  unfold isN at p
  cases e with
  | non =>
    refine ⟨r2, (Post.here L p) _ ?_⟩
    show _ = _
    rw [rv_non r1]
  | _ => exact p.elim
theorem od_isnotN : OpD X G W (compareOp .IsNot) isnotN := opR_imp op_notN fun x y H Q ⟨d, e, S, μ, L, r1, r2, p⟩ => by
  unfold isnotN at p
  cases e with
  | non =>
    refine ⟨r2, (Post.here L p) _ ?_⟩
    show _ = _
    rw [rv_non r1]
  | _ => exact p.elim
end
end Fd

set_option Elab.async false
set_option linter.all false
set_option maxRecDepth 100000
set_option maxHeartbeats 1000000
namespace Fd
open PySem PySem.Spec PyProof.Rows L2
/-! ### data without dicts, as the library has them -/
def toPy (S : Sto) : Nat → D → Option PyData
  | _, .non => some .none
  | _, .bl b => some (.bool b)
  | _, .int i => some (.int i)
  | _, .str x => some (.str x)
  | n + 1, .tup ds => (ds.mapM (toPy S n)).map .tuple
  | n + 1, .kt ds => (ds.mapM (toPy S n)).map .tuple
  | n + 1, .ft ds => (ds.mapM (toPy S n)).map .tuple
  | n + 1, .lst ds => (ds.mapM (toPy S n)).map .list
  | n + 1, .ref l => match S.objs[l]? with
    | some (.lst ds) => (ds.mapM (toPy S n)).map .list
    | _ => none
  | _, _ => none
section
variable {G : Gx} {μ : Nat → Addr} {S : Sto} {H : Hp}
theorem toPys_ok {n : Nat} (ih : ∀ d v py, RV G μ S.n H d v → toPy S n d = some py → Dp G.K H v py ∧ py.plain = true ∧ py.depth ≤ n) : ∀ (ds : List D) (vs : List V) (pys : List PyData), RVs G μ S.n H ds vs → ds.mapM (toPy S n) = some pys →
    DpAll G.K H vs pys ∧ PyData.plainAll pys = true ∧ PyData.depthAll pys ≤ n
  | [], vs, pys, r, e => by
    have r : vs = [] := r
    subst r
    rw [List.mapM_nil] at e
    cases e
    exact ⟨.nil, rfl, Nat.zero_le _⟩
  | d :: ds, vs, pys, r, e => by
    obtain ⟨v, r', rfl, h1, h2⟩ := r
    rw [List.mapM_cons] at e
    cases e1 : toPy S n d with
    | none => rw [e1] at e; cases e
    | some py =>
      cases e2 : ds.mapM (toPy S n) with
      | none => rw [e1, e2] at e; cases e
      | some ps =>
        rw [e1, e2] at e
        have e : some (py :: ps) = some pys := e
        cases e
        obtain ⟨a1, a2, a3⟩ := ih d v py h1 e1
        obtain ⟨b1, b2, b3⟩ := toPys_ok ih ds r' ps h2 e2
        refine ⟨.cons a1 b1, ?_, ?_⟩
        · show (py.plain && PyData.plainAll ps) = true
          rw [a2, b2]; rfl
        · show max py.depth (PyData.depthAll ps) ≤ n
          omega
theorem toPy_ok (L : Lnk G μ S H) : ∀ (n : Nat) (d : D) (v : V) (py : PyData), RV G μ S.n H d v → toPy S n d = some py → Dp G.K H v py ∧ py.plain = true ∧ py.depth ≤ n := by
  intro n
  induction n with
  | zero =>
    intro d v py r e
    cases d with
    | non => cases e; cases (show v = .non from r); exact ⟨.non, rfl, Nat.le_refl _⟩
    | bl b => cases e; cases (show v = .bl b from r); exact ⟨.bl b, rfl, Nat.le_refl _⟩
    | int b => cases e; cases (show v = .int b from r); exact ⟨.int b, rfl, Nat.le_refl _⟩
    | str b => cases e; cases (show v = .str b from r); exact ⟨.str b, rfl, Nat.le_refl _⟩
    | _ => cases e
  | succ n ih =>
    intro d v py r e
    cases d with
    | non => cases e; cases (show v = .non from r); exact ⟨.non, rfl, Nat.zero_le _⟩
    | bl b => cases e; cases (show v = .bl b from r); exact ⟨.bl b, rfl, Nat.zero_le _⟩
    | int b => cases e; cases (show v = .int b from r); exact ⟨.int b, rfl, Nat.zero_le _⟩
    | str b => cases e; cases (show v = .str b from r); exact ⟨.str b, rfl, Nat.zero_le _⟩
    | tup ds =>
      have e : (ds.mapM (toPy S n)).map PyData.tuple = some py := e
      cases e2 : ds.mapM (toPy S n) with
      | none => rw [e2] at e; cases e
      | some ps =>
        rw [e2] at e
        cases e
        obtain ⟨a, vs, rfl, h1, h2⟩ := r
        obtain ⟨b1, b2, b3⟩ := toPys_ok ih ds vs ps h2 e2
        exact ⟨.tup (.of h1) b1, b2, Nat.succ_le_succ b3⟩
    | kt ds =>
      have e : (ds.mapM (toPy S n)).map PyData.tuple = some py := e
      cases e2 : ds.mapM (toPy S n) with
      | none => rw [e2] at e; cases e
      | some ps =>
        rw [e2] at e
        cases e
        obtain ⟨a, vs, rfl, h1, h2⟩ := r
        obtain ⟨b1, b2, b3⟩ := toPys_ok ih ds vs ps h2 e2
        exact ⟨.tup (.inr h1) b1, b2, Nat.succ_le_succ b3⟩
    | ft ds =>
      have e : (ds.mapM (toPy S n)).map PyData.tuple = some py := e
      cases e2 : ds.mapM (toPy S n) with
      | none => rw [e2] at e; cases e
      | some ps =>
        rw [e2] at e
        cases e
        obtain ⟨a, vs, od, rfl, _, h1, _, h2⟩ := r
        obtain ⟨b1, b2, b3⟩ := toPys_ok ih ds vs ps h2 e2
        exact ⟨.tup (.inl (.inr ⟨od, h1⟩)) b1, b2, Nat.succ_le_succ b3⟩
    | lst ds =>
      have e : (ds.mapM (toPy S n)).map PyData.list = some py := e
      cases e2 : ds.mapM (toPy S n) with
      | none => rw [e2] at e; cases e
      | some ps =>
        rw [e2] at e
        cases e
        obtain ⟨a, vs, rfl, _, h1, h2⟩ := r
        obtain ⟨b1, b2, b3⟩ := toPys_ok ih ds vs ps h2 e2
        exact ⟨.lst (.of h1) b1, b2, Nat.succ_le_succ b3⟩
    | ref l =>
      obtain ⟨h1, h2⟩ := r
      obtain ⟨o, eo⟩ := getE_of_lt h1
      have e : (match S.objs[l]? with | some (.lst ds) => (ds.mapM (toPy S n)).map PyData.list | _ => none) = some py := e
      rw [eo] at e
      cases o with
      | lst ds =>
        have e : (ds.mapM (toPy S n)).map PyData.list = some py := e
        cases e2 : ds.mapM (toPy S n) with
        | none => rw [e2] at e; cases e
        | some ps =>
          rw [e2] at e
          cases e
          subst h2
          obtain ⟨vs, q1, q2⟩ := L.ob l _ eo
          obtain ⟨b1, b2, b3⟩ := toPys_ok ih ds vs ps q2 e2
          exact ⟨.lst (.inl q1.rd) b1, b2, Nat.succ_le_succ b3⟩
      | dct _ _ => cases e
      | ins _ _ => cases e
    | dct _ _ => cases e
    | lam _ => cases e
    | kl _ => cases e
end
/-- the depth that is looked at -/
abbrev py (S : Sto) (d : D) : Option PyData := toPy S 12 d
def eqD : D → D → M D := fun x y S => match py S x, py S y with
  | some a, some b => .ok (.bl (PyData.eqv a b)) S
  | _, _ => .stk
def neD : D → D → M D := fun x y S => match py S x, py S y with
  | some a, some b => .ok (.bl (!PyData.eqv a b)) S
  | _, _ => .stk
def ltP (a b : PyData) : Bool := PySem.W.alike a b && !(match a with | .none => true | _ => false)
def ltD : D → D → M D := fun x y S => match py S x, py S y with
  | some a, some b => if ltP a b = true then .ok (.bl (PySem.W.dataLt a b)) S else .stk
  | _, _ => .stk
def pyItems : PyData → Option (List PyData)
  | .list xs => some xs
  | .tuple xs => some xs
  | _ => none
def inD : D → D → M D := fun x y S => match py S x, (py S y).bind pyItems with
  | some a, some bs => .ok (.bl (bs.any fun z => PyData.eqv z a)) S
  | _, _ => .stk
def notinD : D → D → M D := fun x y S => match py S x, (py S y).bind pyItems with
  | some a, some bs => .ok (.bl (!bs.any fun z => PyData.eqv z a)) S
  | _, _ => .stk
section
variable {X : Cx} {G : Gx} {W : XK}
theorem rd_py2 {f : Value → Value → Sem Value} {op : D → D → M D} {g : PyData → PyData → Bool} {C : PyData → PyData → Prop} (hK : G.K = X.K)
    (hop : ∀ d e S, match py S d, py S e with | some a, some b => (C a b ∧ op d e S = .ok (.bl (g a b)) S) ∨ op d e S = .stk | _, _ => op d e S = .stk)
    (rule : ∀ (a b : PyData) (pins : List (Addr × Obj)) (s : Shared) (σ : L2.St) (H : Hp) (u v : Value) (as bs : List Addr) (Q : Value → Shared → Prop), Inv X pins σ H s → C a b → Reads s.heap u a as → Reads s.heap v b bs → a.plain = true → b.plain = true → a.depth ≤ 12 → b.depth ≤ 12 → Q (.bool (g a b)) s →
      wpAny (model X.prog X.w) X.A (f u v) Q X.xe s) : OpD X G W f op := by
  intro pins s σ H x y v u Q I rx ry ⟨d, e, S, μ, L, r1, r2, p⟩
  have h := hop d e S
  cases e1 : py S d with
  | none => rw [e1] at h; rw [show op d e S = .stk from h] at p; exact p.elim
  | some a =>
    cases e2 : py S e with
    | none => rw [e1, e2] at h; rw [show op d e S = .stk from h] at p; exact p.elim
    | some b =>
      rw [e1, e2] at h
      rcases h with ⟨c, h⟩ | h
      · rw [h] at p
        obtain ⟨a1, a2, a3⟩ := toPy_ok L 12 d x a r1 e1
        obtain ⟨b1, b2, b3⟩ := toPy_ok L 12 e y b r2 e2
        rw [hK] at a1 b1
        obtain ⟨as, ra⟩ := Dp.reads I a x v a1 rx
        obtain ⟨bs, rb⟩ := Dp.reads I b y u b1 ry
        exact rule a b pins s σ H v u as bs _ I c ra rb a2 b2 a3 b3 ⟨.bl _, H, I, rfl, (Post.here L p) _ rfl⟩
      · rw [h] at p; exact p.elim
theorem od_eqD (hK : G.K = X.K) (hu : X.A.units + 64 < cLine) : OpD X G W (compareOp .Eq) eqD := rd_py2 (C := fun _ _ => True) (g := PyData.eqv) hK (fun d e S => by
    unfold eqD
    cases py S d <;> cases py S e <;> first | rfl | exact .inl ⟨True.intro, rfl⟩)
  fun a b pins s σ H u v as bs Q I _ ra rb pa pb da db hq => SeqAt.eq_plain ra rb pa pb (by omega) hq
theorem od_neD (hK : G.K = X.K) (hu : X.A.units + 64 < cLine) : OpD X G W (compareOp .NotEq) neD := rd_py2 (C := fun _ _ => True) (g := fun a b => !PyData.eqv a b) hK (fun d e S => by
    unfold neD
    cases py S d <;> cases py S e <;> first | rfl | exact .inl ⟨True.intro, rfl⟩)
  fun a b pins s σ H u v as bs Q I _ ra rb pa pb da db hq => SeqAt.ne_plain ra rb pa pb (by omega) hq
theorem od_ltD (hK : G.K = X.K) (hu : X.A.units + 64 < cLine) : OpD X G W (compareOp .Lt) ltD := rd_py2 (C := fun a b => ltP a b = true) (g := PySem.W.dataLt) hK (fun d e S => by
    unfold ltD
    cases py S d with
    | none => rfl
    | some a =>
      cases py S e with
      | none => rfl
      | some b =>
        show (_ ∧ (if ltP a b = true then _ else _) = _) ∨ (if ltP a b = true then _ else _) = _
        by_cases h : ltP a b = true
        · exact .inl ⟨h, by rw [if_pos h]⟩
        · exact .inr (by rw [if_neg h]))
  fun a b pins s σ H u v as bs Q I c ra rb pa pb da db hq => by
    unfold ltP at c
    rw [Bool.and_eq_true] at c
    exact PySem.W.lt_data ra rb c.1 (fun e => by rw [e] at c; exact absurd c.2 (by decide)) (by omega) hq
theorem od_inD (hK : G.K = X.K) (hu : X.A.units + 64 < cLine) : OpD X G W (compareOp .In) inD := rd_py2 (C := fun _ b => ∃ xs, pyItems b = some xs) (g := fun a b => ((pyItems b).getD []).any fun z => PyData.eqv z a) hK (fun d e S => by
    unfold inD
    cases py S d with
    | none => cases h : (py S e) <;> rfl
    | some a =>
      cases py S e with
      | none => rfl
      | some b =>
        show (_ ∧ (match some a, pyItems b with | some a, some bs => _ | _, _ => _) = _) ∨ (match some a, pyItems b with | some a, some bs => _ | _, _ => _) = _
        cases h : pyItems b with
        | none => exact .inr rfl
        | some xs => exact .inl ⟨⟨xs, rfl⟩, rfl⟩)
  fun a b pins s σ H u v as bs Q I c ra rb pa pb da db hq => by
    obtain ⟨xs, e⟩ := c
    cases b with
    | list ys =>
      cases e
      have dd : PyData.depthAll xs + 1 ≤ 12 := db
      exact SeqAt.in_list_data rb ra pb pa (by omega) hq
    | tuple ys =>
      cases e
      have dd : PyData.depthAll xs + 1 ≤ 12 := db
      exact SeqAt.in_tuple_data rb ra pb pa (by omega) hq
    | _ => cases e
theorem od_notinD (hK : G.K = X.K) (hu : X.A.units + 64 < cLine) : OpD X G W (compareOp .NotIn) notinD := rd_py2 (C := fun _ b => ∃ xs, pyItems b = some xs) (g := fun a b => !((pyItems b).getD []).any fun z => PyData.eqv z a) hK (fun d e S => by
    unfold notinD
    cases py S d with
    | none => cases h : (py S e) <;> rfl
    | some a =>
      cases py S e with
      | none => rfl
      | some b =>
        show (_ ∧ (match some a, pyItems b with | some a, some bs => _ | _, _ => _) = _) ∨ (match some a, pyItems b with | some a, some bs => _ | _, _ => _) = _
        cases h : pyItems b with
        | none => exact .inr rfl
        | some xs => exact .inl ⟨⟨xs, rfl⟩, rfl⟩)
  fun a b pins s σ H u v as bs Q I c ra rb pa pb da db hq => by
    obtain ⟨xs, e⟩ := c
    cases b with
    | list ys =>
      cases e
      have dd : PyData.depthAll xs + 1 ≤ 12 := db
      exact SeqAt.notIn_list_data rb ra pb pa (by omega) hq
    | tuple ys =>
      cases e
      have dd : PyData.depthAll xs + 1 ≤ 12 := db
      exact SeqAt.notIn_tuple_data rb ra pb pa (by omega) hq
    | _ => cases e
end
end Fd

set_option Elab.async false
set_option linter.all false
set_option maxRecDepth 100000
set_option maxHeartbeats 1000000
namespace Fd
open PySem PySem.Spec PyProof.Rows L2
/-! ### dicts -/
def val (kvs : List (DK × D)) (k : DK) : Option D := (kvs.find? fun p => decide (p.1 = k)).map (·.2)
def put (kvs : List (DK × D)) (k : DK) (v : D) : List (DK × D) := if (kvs.any fun p => decide (p.1 = k)) = true then kvs.map fun p => if p.1 = k then (p.1, v) else p else kvs ++ [(k, v)]
def drop (kvs : List (DK × D)) (k : DK) : List (DK × D) := kvs.filter fun p => decide (p.1 ≠ k)
def atomK : D → Option Key
  | .int i => some (.inl i)
  | .str x => some (.inr x)
  | _ => none
/-- a datum as a key of such a dict -/
def keyD (t : Bool) (d : D) : Option DK := match t, d with
  | false, d => (atomK d).map .k
  | true, .tup ds => (ds.mapM atomK).map .t
  | _, _ => none
/-- a key as a datum -/
def kD : Key → D
  | .inl i => .int i
  | .inr x => .str x
def dkD : DK → D
  | .k x => kD x
  | .t xs => .tup (xs.map kD)
def dctD (S : Sto) : D → Option (Bool × List (DK × D))
  | .dct t kvs => some (t, kvs)
  | .ref l => match S.objs[l]? with
    | some (.dct t kvs) => some (t, kvs)
    | _ => none
  | _ => none
section
variable {G : Gx} {μ : Nat → Addr} {S : Sto} {H : Hp}
theorem dctD_ok (L : Lnk G μ S H) {d : D} {v : V} {t : Bool} {kvs : List (DK × D)} (r : RV G μ S.n H d v) (e : dctD S d = some (t, kvs)) : ∃ a vs o, v = .ref a ∧ Rd H a o ∧ HOd t vs o ∧ RVk G μ S.n H kvs vs := by
  cases d with
  | dct t' xs =>
    cases e
    obtain ⟨a, vs, od, o, h1, _, h3, h4, h5⟩ := r
    exact ⟨a, vs, o, h1, .inr ⟨od, h3⟩, h4, h5⟩
  | ref l =>
    obtain ⟨h1, h2⟩ := r
    obtain ⟨o, eo⟩ := getE_of_lt h1
    have e : (match S.objs[l]? with | some (.dct t kvs) => some (t, kvs) | _ => none) = some (t, kvs) := e
    rw [eo] at e
    cases o with
    | dct t' xs =>
      cases e
      obtain ⟨vs, o, q1, q2, q3⟩ := L.ob l _ eo
      exact ⟨_, vs, o, h2, q1.rd, q2, q3⟩
    | lst _ => cases e
    | ins _ _ => cases e
  | _ => cases e
theorem atomK_ok {n : Nat} {d : D} {v : V} {k : Key} (r : RV G μ n H d v) (e : atomK d = some k) : v = kV k := by
  cases d with
  | int i => cases e; exact r
  | str x => cases e; exact r
  | _ => cases e
theorem atomKs_ok {n : Nat} : ∀ {ds : List D} {vs : List V} {ks : List Key}, RVs G μ n H ds vs → ds.mapM atomK = some ks → vs = ks.map kV
  | [], vs, ks, r, e => by
    have r : vs = [] := r
    rw [List.mapM_nil] at e
    cases e
    exact r
  | d :: ds, vs, ks, r, e => by
    obtain ⟨v, r', rfl, h1, h2⟩ := r
    rw [List.mapM_cons] at e
    cases e1 : atomK d with
    | none => rw [e1] at e; cases e
    | some k =>
      cases e2 : ds.mapM atomK with
      | none => rw [e1, e2] at e; cases e
      | some ks' =>
        rw [e1, e2] at e
        have e : some (k :: ks') = some ks := e
        cases e
        rw [atomK_ok h1 e1, atomKs_ok h2 e2]; rfl
/-- what a key is in the heap -/
inductive KeyAt (H : Hp) : Bool → DK → V → Prop where
  | k (x : Key) : KeyAt H false (.k x) (kV x)
  | t {b : Addr} (xs : List Key) : H b = some (.tup (xs.map kV)) → KeyAt H true (.t xs) (.ref b)
theorem keyD_ok {n : Nat} {t : Bool} {d : D} {v : V} {k : DK} (r : RV G μ n H d v) (e : keyD t d = some k) : KeyAt H t k v := by
  unfold keyD at e
  cases t with
  | false =>
    have e : (atomK d).map DK.k = some k := by cases d <;> exact e
    cases e1 : atomK d with
    | none => rw [e1] at e; cases e
    | some x =>
      rw [e1] at e
      cases e
      rw [atomK_ok r e1]
      exact .k x
  | true =>
    cases d with
    | tup ds =>
      have e : (ds.mapM atomK).map DK.t = some k := e
      cases e1 : ds.mapM atomK with
      | none => rw [e1] at e; cases e
      | some xs =>
        rw [e1] at e
        cases e
        obtain ⟨a, vs, rfl, h1, h2⟩ := r
        refine .t xs ?_
        rw [h1, atomKs_ok h2 e1]
    | _ => cases e
theorem RVk.paired {n : Nat} : ∀ {kvs : List (DK × D)} {vs : List (DK × V)}, RVk G μ n H kvs vs → Paired (fun p q => p.1 = q.1 ∧ RV G μ n H p.2 q.2) kvs vs
  | [], _, h => by
    have h : _ = _ := h
    subst h; exact .nil
  | (k, d) :: ds, _, h => by
    obtain ⟨v, r, rfl, h2, h3⟩ := h
    exact .cons ⟨rfl, h2⟩ h3.paired
theorem RVk.of {n : Nat} : ∀ {kvs : List (DK × D)} {vs : List (DK × V)}, Paired (fun p q => p.1 = q.1 ∧ RV G μ n H p.2 q.2) kvs vs → RVk G μ n H kvs vs
  | [], _, .nil => rfl
  | (k, d) :: _, (k', v) :: _, .cons h t => by
    have e : k = k' := h.1
    subst e
    exact ⟨v, _, rfl, h.2, RVk.of t⟩
theorem RVk.length {n : Nat} {kvs : List (DK × D)} {vs : List (DK × V)} (h : RVk G μ n H kvs vs) : kvs.length = vs.length := Paired.length h.paired
def RO (G : Gx) (μ : Nat → Addr) (n : Nat) (H : Hp) : Option D → Option V → Prop
  | some d, some v => RV G μ n H d v
  | none, none => True
  | _, _ => False
theorem val_valV {n : Nat} {κ : Type} [DecidableEq κ] {f : κ → DK} (inj : ∀ a b, f a = f b → a = b) : ∀ {kvs : List (DK × D)} {l : List (κ × V)}, RVk G μ n H kvs (l.map fun p => (f p.1, p.2)) → ∀ k : κ, RO G μ n H (val kvs (f k)) (valV l k)
  | [], l, h, k => by
    have h : l.map _ = [] := h
    have : l = [] := List.map_eq_nil_iff.mp h
    subst this
    exact True.intro
  | (k0, d) :: r, l, h, k => by
    obtain ⟨v, r', e, h2, h3⟩ := h
    cases l with
    | nil => cases e
    | cons p l =>
      rw [List.map_cons] at e
      injection e with e1 e2
      injection e1 with e3 e4
      subst e2 e4
      have ih := val_valV inj h3 k
      by_cases hk : p.1 = k
      · rw [valV_pos hk]
        have : val ((k0, d) :: r) (f k) = some d := by
          unfold val
          rw [List.find?_cons_of_pos (by simp [← e3, hk])]; rfl
        rw [this]; exact h2
      · rw [valV_neg hk]
        have : val ((k0, d) :: r) (f k) = val r (f k) := by
          unfold val
          rw [List.find?_cons_of_neg (by
            simp only [decide_eq_true_eq, ← e3]
            exact fun z => hk (inj _ _ z))]
        rw [this]; exact ih
theorem dk_inj {a b : Key} (h : DK.k a = DK.k b) : a = b := by cases h; rfl
theorem dt_inj {a b : List Key} (h : DK.t a = DK.t b) : a = b := by cases h; rfl
/-- a look-up -/
theorem dget_ok (L : Lnk G μ S H) {d : D} {v y : V} {t : Bool} {kvs : List (DK × D)} {k : DK} (r : RV G μ S.n H d v) (e : dctD S d = some (t, kvs)) (hk : KeyAt H t k y) : ∃ a o, v = .ref a ∧ DGet H a y o ∧ RO G μ S.n H (val kvs k) o := by
  obtain ⟨a, vs, ho, h1, h2, h3, h4⟩ := dctD_ok L r e
  cases hk with
  | k x =>
    cases h3 with
    | k l => exact ⟨a, valV l x, h1, .inl ⟨l, x, h2, rfl, rfl⟩, val_valV (fun _ _ => dk_inj) h4 x⟩
  | t xs hb =>
    cases h3 with
    | t l => exact ⟨a, valV l xs, h1, .inr ⟨l, xs, _, h2, rfl, hb, rfl⟩, val_valV (fun _ _ => dt_inj) h4 xs⟩
end
section
variable {X : Cx} {G : Gx} {W : XK}
theorem pe_or {e : Expr} {t t' : TE} (h : PE X e t) (h' : PE X e t') : PE X e (fun σ H Q => t σ H Q ∨ t' σ H Q) := ⟨fun pins s σ H Q I q => q.elim (h.run pins s σ H Q I) (h'.run pins s σ H Q I)⟩
def alt2 (c : D → D → Sto → Bool) (o1 o2 : D → D → M D) : D → D → M D := fun x y S => if c x y S = true then o1 x y S else o2 x y S
theorem se_alt {e : Expr} {fa fb : En → M D} {o1 o2 : D → D → M D} (c : D → D → Sto → Bool) (h1 : SE X G W e (bin2 o1 fa fb)) (h2 : SE X G W e (bin2 o2 fa fb)) : SE X G W e (bin2 (alt2 c o1 o2) fa fb) := by
  refine pe_imp (pe_or h1 h2) fun σ H Q ⟨σd, S, μ, a, h⟩ => ?_
  have key : ∀ o : D → D → M D, bin2 o fa fb σd S = (match fa σd S with
      | .ok x S1 => (match fb σd S1 with
        | .ok y S2 => o x y S2
        | .exc c S' => .exc c S'
        | .stk => .stk)
      | .exc c S' => .exc c S'
      | .stk => .stk) := fun o => by
    show M.bind (fa σd) (fun x => M.bind (fb σd) fun y => o x y) S = _
    unfold M.bind
    cases fa σd S with
    | ok x S1 => dsimp only; cases fb σd S1 <;> rfl
    | exc _ _ => rfl
    | stk => rfl
  rw [key] at h
  cases e1 : fa σd S with
  | exc c S' =>
    rw [e1] at h
    exact .inl ⟨σd, S, μ, a, by rw [key, e1]; exact h⟩
  | stk => rw [e1] at h; exact h.elim
  | ok x S1 =>
    simp only [e1] at h
    cases e2 : fb σd S1 with
    | exc c S' =>
      rw [e2] at h
      exact .inl ⟨σd, S, μ, a, by rw [key, e1]; simp only [e2]; exact h⟩
    | stk => rw [e2] at h; exact h.elim
    | ok y S2 =>
      simp only [e2] at h
      unfold alt2 at h
      by_cases hc : c x y S2 = true
      · rw [if_pos hc] at h
        exact .inl ⟨σd, S, μ, a, by rw [key, e1]; simp only [e2]; exact h⟩
      · rw [if_neg hc] at h
        exact .inr ⟨σd, S, μ, a, by rw [key, e1]; simp only [e2]; exact h⟩
/-! ### subscripts -/
def dgetO : D → D → M D := fun x y S => match dctD S x with
  | some (t, kvs) => (match (keyD t y).bind (val kvs) with
    | some d => .ok d S
    | none => .stk)
  | none => .stk
def ixO : D → D → M D := fun x y S => match y with
  | .int i => (match x with
    | .str z => if z.length ≤ sizeLine then (match atI z.cps.toList i with
      | some c => .ok (.str ⟨#[c]⟩) S
      | none => .stk) else .stk
    | _ => (match ((tupD x).or (seqL S x)).bind fun ds => atI ds i with
      | some d => .ok d S
      | none => .stk))
  | _ => .stk
variable {a b : Expr} {fa fb : En → M D} {pos : Pos}
theorem se_dget (hu : X.A.units + 1 < cLine) (ha : SE X G W a fa) (hb : SE X G W b fb) (hs : NoSl b) : SE X G W (.Subscript a b pos) (bin2 dgetO fa fb) := by
  refine pe_imp (pe_dget hu ha hb hs) (rd_bin2 fun x y H Q ⟨d, e, S, μ, L, r1, r2, p⟩ => ?_)
  unfold dgetO at p
  cases e1 : dctD S d with
  | none => rw [e1] at p; exact p.elim
  | some q =>
    obtain ⟨t, kvs⟩ := q
    rw [e1] at p
    cases e2 : keyD t e with
    | none => simp only [e2] at p; exact p.elim
    | some k =>
      obtain ⟨aa, o, h1, h2, h3⟩ := dget_ok L r1 e1 (keyD_ok r2 e2)
      cases e3 : val kvs k with
      | none => simp only [e2, Option.bind_some, e3] at p; exact p.elim
      | some dv =>
        simp only [e2, Option.bind_some, e3] at p
        rw [e3] at h3
        cases o with
        | none => exact h3.elim
        | some v => exact ⟨aa, v, h1, h2, (Post.here L p) v h3⟩
theorem atI_rvs {μ : Nat → Addr} {n : Nat} {H : Hp} {ds : List D} {vs : List V} {i : Int} {d : D} (r : RVs G μ n H ds vs) (e : atI ds i = some d) : ∃ v, atI vs i = some v ∧ RV G μ n H d v := by
  unfold atI at *
  rw [← r.length]
  cases h : ixN ds.length i with
  | none => rw [h] at e; cases e
  | some j =>
    rw [h] at e
    have e : ds[j]? = some d := e
    have q : ∀ {ds : List D} {vs : List V} {j : Nat}, RVs G μ n H ds vs → ds[j]? = some d → ∃ v, vs[j]? = some v ∧ RV G μ n H d v := by
      intro ds
      induction ds with
      | nil => intro vs j r e; simp at e
      | cons x xs ih =>
        intro vs j r e
        obtain ⟨v, r', rfl, h1, h2⟩ := r
        cases j with
        | zero => simp at e; subst e; exact ⟨v, rfl, h1⟩
        | succ j =>
          obtain ⟨w, h3, h4⟩ := ih h2 (j := j) (by rwa [List.getElem?_cons_succ] at e)
          exact ⟨w, by rw [List.getElem?_cons_succ]; exact h3, h4⟩
    obtain ⟨v, h1, h2⟩ := q r e
    exact ⟨v, h1, h2⟩
theorem se_ix (hK : G.K = X.K) (ha : SE X G W a fa) (hb : SE X G W b fb) (hs : PlainIx b) : SE X G W (.Subscript a b pos) (bin2 ixO fa fb) := by
  refine pe_imp (pe_ix ix_seq ha hb hs) (rd_bin2 fun x y H Q ⟨d, e, S, μ, L, r1, r2, p⟩ => ?_)
  unfold ixO at p
  cases e with
  | int i =>
    cases (show y = .int i from r2)
    have seq : (∀ z, d ≠ .str z) → ∃ ds dv, (tupD d).or (seqL S d) = some ds ∧ atI ds i = some dv ∧ Post G μ S H W (fun d S' μ' H' => ∀ v, RV G μ' S'.n H' d v → Q v H') (.ok dv S) := fun hd => by
      have p' : Post G μ S H W (fun d S' μ' H' => ∀ v, RV G μ' S'.n H' d v → Q v H') (match ((tupD d).or (seqL S d)).bind fun ds => atI ds i with | some d => .ok d S | none => .stk) := by
        cases d <;> first | exact p | exact absurd rfl (hd _)
      cases h1 : (tupD d).or (seqL S d) with
      | none => rw [h1] at p'; exact p'.elim
      | some ds =>
        rw [h1] at p'
        cases h2 : atI ds i with
        | none => simp only [Option.bind_some, h2] at p'; exact p'.elim
        | some dv =>
          simp only [Option.bind_some, h2] at p'
          exact ⟨ds, dv, rfl, h2, p'⟩
    by_cases hd : ∃ z, d = .str z
    · obtain ⟨z, rfl⟩ := hd
      cases (show x = .str z from r1)
      simp only at p
      by_cases hz : z.length ≤ sizeLine
      · rw [if_pos hz] at p
        cases h2 : atI z.cps.toList i with
        | none => rw [h2] at p; exact p.elim
        | some c =>
          rw [h2] at p
          exact .inr (.inr ⟨z, i, c, rfl, rfl, hz, h2, (Post.here L p) _ rfl⟩)
      · rw [if_neg hz] at p; exact p.elim
    · obtain ⟨ds, dv, h1, h2, p⟩ := seq fun z e => hd ⟨z, e⟩
      cases h3 : tupD d with
      | some xs =>
        rw [h3] at h1
        cases h1
        obtain ⟨a, vs, rfl, q1, q2⟩ := tupD_ok r1 h3
        obtain ⟨v, q3, q4⟩ := atI_rvs q2 h2
        rw [hK] at q1
        exact .inr (.inl ⟨a, vs, i, v, rfl, rfl, q1, q3, (Post.here L p) v q4⟩)
      | none =>
        rw [h3] at h1
        have h1 : seqL S d = some ds := h1
        obtain ⟨a, vs, rfl, q1, q2⟩ := seqL_ok L r1 h1
        obtain ⟨v, q3, q4⟩ := atI_rvs q2 h2
        exact .inl ⟨a, vs, i, v, rfl, rfl, .inl q1, q3, (Post.here L p) v q4⟩
  | _ => exact p.elim
/-- a[b], of a dict, a list, a tuple, a text -/
def itemO : D → D → M D := alt2 (fun x _ S => (dctD S x).isSome) dgetO ixO
theorem se_item (hK : G.K = X.K) (hu : X.A.units + 1 < cLine) (ha : SE X G W a fa) (hb : SE X G W b fb) (hs : NoSl b := by intro _ _; rfl) (hp : PlainIx b := by intro _ _; rfl) : SE X G W (.Subscript a b pos) (bin2 itemO fa fb) :=
  se_alt _ (se_dget hu ha hb hs) (se_ix hK ha hb hp)
/-! ### in -/
def dinO (b : Bool) : D → D → M D := fun y x S => match dctD S x with
  | some (t, kvs) => (match keyD t y with
    | some k => .ok (.bl (b == (val kvs k).isSome)) S
    | none => .stk)
  | none => .stk
theorem RO.some_eq {μ : Nat → Addr} {n : Nat} {H : Hp} {o : Option D} {u : Option V} (r : RO G μ n H o u) : u.isSome = o.isSome := by
  cases o <;> cases u <;> first | rfl | exact r.elim
theorem se_din (hu : X.A.units + 1 < cLine) (ha : SE X G W a fa) (hb : SE X G W b fb) (hm : behindInMarks .In b = false := by rfl) : SE X G W (.Compare a [.In] [b] pos) (bin2 (dinO true) fa fb) := by
  refine pe_imp (pe_cmp (pc_din hu ha hb) hm) (rd_bin2 (r := fun y x H2 Q => ∃ a o, x = .ref a ∧ DGet H2 a y o ∧ Q (.bl o.isSome) H2) fun y x H Q ⟨e, d, S, μ, L, r2, r1, p⟩ => ?_)
  unfold dinO at p
  cases e1 : dctD S d with
  | none => rw [e1] at p; exact p.elim
  | some q =>
    obtain ⟨t, kvs⟩ := q
    rw [e1] at p
    cases e2 : keyD t e with
    | none => simp only [e2] at p; exact p.elim
    | some k =>
      obtain ⟨aa, o, h1, h2, h3⟩ := dget_ok L r1 e1 (keyD_ok r2 e2)
      simp only [e2] at p
      exact ⟨aa, o, h1, h2, (Post.here L p) _ (by show _ = _; rw [h3.some_eq]; cases (val kvs k).isSome <;> rfl)⟩
theorem se_dnotin (hu : X.A.units + 1 < cLine) (ha : SE X G W a fa) (hb : SE X G W b fb) (hm : behindInMarks .NotIn b = false := by rfl) : SE X G W (.Compare a [.NotIn] [b] pos) (bin2 (dinO false) fa fb) := by
  refine pe_imp (pe_cmp (pc_dnotin hu ha hb) hm) (rd_bin2 (r := fun y x H2 Q => ∃ a o, x = .ref a ∧ DGet H2 a y o ∧ Q (.bl (!o.isSome)) H2) fun y x H Q ⟨e, d, S, μ, L, r2, r1, p⟩ => ?_)
  unfold dinO at p
  cases e1 : dctD S d with
  | none => rw [e1] at p; exact p.elim
  | some q =>
    obtain ⟨t, kvs⟩ := q
    rw [e1] at p
    cases e2 : keyD t e with
    | none => simp only [e2] at p; exact p.elim
    | some k =>
      obtain ⟨aa, o, h1, h2, h3⟩ := dget_ok L r1 e1 (keyD_ok r2 e2)
      simp only [e2] at p
      exact ⟨aa, o, h1, h2, (Post.here L p) _ (by show _ = _; rw [h3.some_eq]; cases (val kvs k).isSome <;> rfl)⟩
/-- one sign in a text -/
def signIn (b : Bool) : D → D → M D := fun x y => match x, y with
  | .str y, .str z => (match y.cps.toList with
    | [c] => M.pure (.bl (b == decide (c ∈ z.cps.toList)))
    | _ => M.stk)
  | _, _ => M.stk
theorem str_one {y : Str} {c : Nat} (h : y.cps.toList = [c]) : y = ⟨#[c]⟩ := by
  obtain ⟨l⟩ := y
  have h : l.toList = [c] := h
  have : l = #[c] := by rw [← Array.toArray_toList (xs := l), h]
  rw [this]
theorem od_signIn : OpD X G W (compareOp .In) (signIn true) := opR_imp op_in_sign fun x y H Q ⟨d, e, S, μ, L, r1, r2, p⟩ => by
  unfold signIn at p
  cases d with
  | str y' =>
    cases e with
    | str z =>
      cases (show x = .str y' from r1)
      cases (show y = .str z from r2)
      simp only at p
      cases hc : y'.cps.toList with
      | nil => rw [hc] at p; exact p.elim
      | cons c r =>
        cases r with
        | cons _ _ => rw [hc] at p; exact p.elim
        | nil =>
          rw [hc] at p
          refine ⟨c, z, by rw [str_one hc], rfl, (Post.here L p) _ ?_⟩
          show V.bl _ = V.bl _
          cases decide (c ∈ z.cps.toList) <;> rfl
    | _ => exact p.elim
  | _ => exact p.elim
theorem od_signNotin : OpD X G W (compareOp .NotIn) (signIn false) := opR_imp op_notIn_sign fun x y H Q ⟨d, e, S, μ, L, r1, r2, p⟩ => by
  unfold signIn at p
  cases d with
  | str y' =>
    cases e with
    | str z =>
      cases (show x = .str y' from r1)
      cases (show y = .str z from r2)
      simp only at p
      cases hc : y'.cps.toList with
      | nil => rw [hc] at p; exact p.elim
      | cons c r =>
        cases r with
        | cons _ _ => rw [hc] at p; exact p.elim
        | nil =>
          rw [hc] at p
          refine ⟨c, z, by rw [str_one hc], rfl, (Post.here L p) _ ?_⟩
          show V.bl _ = V.bl _
          cases decide (c ∈ z.cps.toList) <;> rfl
    | _ => exact p.elim
  | _ => exact p.elim
def isStr : D → Bool
  | .str _ => true
  | _ => false
def inO : D → D → M D := alt2 (fun _ y S => (dctD S y).isSome) (dinO true) (alt2 (fun _ y _ => isStr y) (signIn true) inD)
def notinO : D → D → M D := alt2 (fun _ y S => (dctD S y).isSome) (dinO false) (alt2 (fun _ y _ => isStr y) (signIn false) notinD)
theorem se_in (hK : G.K = X.K) (hu : X.A.units + 64 < cLine) (ha : SE X G W a fa) (hb : SE X G W b fb) (hm : behindInMarks .In b = false := by rfl) : SE X G W (.Compare a [.In] [b] pos) (bin2 inO fa fb) :=
  se_alt _ (se_din (by omega) ha hb hm) (se_alt _ (se_cmp od_signIn ha hb hm) (se_cmp (od_inD hK hu) ha hb hm))
theorem se_notin (hK : G.K = X.K) (hu : X.A.units + 64 < cLine) (ha : SE X G W a fa) (hb : SE X G W b fb) (hm : behindInMarks .NotIn b = false := by rfl) : SE X G W (.Compare a [.NotIn] [b] pos) (bin2 notinO fa fb) :=
  se_alt _ (se_dnotin (by omega) ha hb hm) (se_alt _ (se_cmp od_signNotin ha hb hm) (se_cmp (od_notinD hK hu) ha hb hm))
/-- a comparison whose value is at hand, as a test -/
theorem st_of {e : Expr} {f : En → M D} (h : SE X G W e f) (he : ∀ whole, isTrue e X.env whole = (do let v ← whole; standAt e.pos; holding [v] (truthy v)) := by intro _; rfl) : STe X G W e (tst1 f) := st_val h he
end
end Fd

set_option Elab.async false
set_option linter.all false
set_option maxRecDepth 100000
set_option maxHeartbeats 1000000
namespace Fd
open PySem PySem.Spec PyProof.Rows L2
section
variable {X : Cx} {G : Gx} {W : XK} {e c : Expr} {fe : En → M D} {pos : Pos} {st : Stmt} {rest : List Stmt} {f g : En → M Fl} {tb : En → M Bool}
/-! ### statements -/
def seqS (f g : En → M Fl) : En → M Fl := fun σ => f σ >>= fun (fl : Fl) => match fl with
  | .nx σ' => g σ'
  | o => M.pure o
def skip : En → M Fl := fun σ => M.pure (Fl.nx σ)
theorem sss_nil : SSs X G W [] skip := pss_imp pss_nil fun Dn σ H ⟨σd, S, μ, a, h⟩ => (Post.here a.lnk h) σ a.en
theorem sss_cons (h1 : SS X G W st f) (h2 : SSs X G W rest g) : SSs X G W (st :: rest) (seqS f g) := by
  refine pss_imp (pss_cons h1 h2) fun Dn σ H ⟨σd, S, μ, a, h⟩ => ?_
  have h := Post.bind (k := fun (fl : Fl) => match fl with | .nx σ' => g σ' | o => M.pure o) h
  refine ⟨σd, S, μ, a, h.mono fun fl S1 μ1 H1 s q => ?_⟩
  cases fl with
  | nx σ' => exact fun σ1 r => ⟨σ', S1, μ1, ⟨r, s.lnk⟩, q⟩
  | bk σ' => exact fun σ1 r => (Post.here (W := W) s.lnk q) σ1 r
  | ct σ' => exact fun σ1 r => (Post.here (W := W) s.lnk q) σ1 r
  | rt d => exact fun v r => (Post.here (W := W) s.lnk q) v r
theorem sss_one (h1 : SS X G W st f) : SSs X G W [st] f := pss_one h1
theorem ss_pass : SS X G W (.Pass pos) skip := ps_imp ps_pass fun Dn σ H ⟨σd, S, μ, a, h⟩ => (Post.here a.lnk h) σ a.en
theorem ss_break : SS X G W (.Break pos) (fun σ => M.pure (.bk σ)) := ps_imp ps_break fun Dn σ H ⟨σd, S, μ, a, h⟩ => (Post.here a.lnk h) σ a.en
theorem ss_cont : SS X G W (.Continue pos) (fun σ => M.pure (.ct σ)) := ps_imp ps_continue fun Dn σ H ⟨σd, S, μ, a, h⟩ => (Post.here a.lnk h) σ a.en
theorem ss_doc {x j pos pos'} : SS X G W (.Expr (.Constant (.str x) j pos) pos') skip := ps_imp ps_doc fun Dn σ H ⟨σd, S, μ, a, h⟩ => (Post.here a.lnk h) σ a.en
def exprS (fe : En → M D) : En → M Fl := fun σ => fe σ >>= fun _ => M.pure (Fl.nx σ)
theorem ss_expr (he : SE X G W e fe) (hs : swapsWith e none pos.line X.env = pure false := by rfl) : SS X G W (.Expr e pos) (exprS fe) := ps_imp (ps_expr he hs) fun Dn σ H ⟨σd, S, μ, a, h⟩ =>
  rdE_bind (k := fun σ _ => M.pure (Fl.nx σ)) a h fun d S1 μ1 H1 v s a1 r q => (Post.here a1.lnk q) σ a1.en
def retS (fe : En → M D) : En → M Fl := fun σ => fe σ >>= fun d => M.pure (Fl.rt d)
theorem ss_ret (he : SE X G W e fe) : SS X G W (.Return (some e) pos) (retS fe) := ps_imp (ps_ret he) fun Dn σ H ⟨σd, S, μ, a, h⟩ =>
  rdE_bind (k := fun _ d => M.pure (Fl.rt d)) a h fun d S1 μ1 H1 v s a1 r q => (Post.here a1.lnk q) v r
theorem ss_retN : SS X G W (.Return none pos) (fun _ => M.pure (Fl.rt .non)) := ps_imp ps_retN fun Dn σ H ⟨σd, S, μ, a, h⟩ => (Post.here a.lnk h) _ rfl
def ifS (t : En → M Bool) (f g : En → M Fl) : En → M Fl := fun σ => t σ >>= fun b => if b = true then f σ else g σ
theorem ss_if {as bs : List Stmt} (hc : STe X G W c tb) (ha : SSs X G W as f) (hb : SSs X G W bs g) : SS X G W (.If c as bs pos) (ifS tb f g) := ps_imp (ps_if hc ha hb) fun Dn σ H ⟨σd, S, μ, a, h⟩ =>
  rdT_bind (k := fun σ b => if b = true then f σ else g σ) a h fun d S1 μ1 H1 s a1 q => by
    cases d with
    | true => exact ⟨σd, S1, μ1, a1, q⟩
    | false => exact ⟨σd, S1, μ1, a1, q⟩
def setS (i : Nat) (fe : En → M D) : En → M Fl := fun σ => fe σ >>= fun d => M.pure (Fl.nx (σ.set i (some d)))
theorem ss_set (i : Nat) {x : Str} {pos' : Pos} (he : SE X G W e fe) (hN : X.N.Nodup) (hi : X.N[i]? = some x := by rfl) (hx : Loc X.env.scope x := by first | exact Or.inl rfl | exact Or.inr rfl) (hs : swapsWith e (some (.Name x pos')) pos.line X.env = pure false := by rfl) (hf : X.fn x = true ∨ X.env.scope.names.lookup x = some .local := by first | exact .inl rfl | exact .inr rfl | assumption) :
    SS X G W (.Assign [.Name x pos'] e pos) (setS i fe) := ps_imp (ps_set hN hi hx he hs hf) fun Dn σ H ⟨σd, S, μ, a, h⟩ =>
  rdE_bind (k := fun σ d => M.pure (Fl.nx (σ.set i (some d)))) a h fun d S1 μ1 H1 v s a1 r q => (Post.here a1.lnk q) _ (a1.en.set r)
/-! ### targets -/
def rdG (G : Gx) (W : XK) (g : D → En → M En) : TG := fun v σ H Q => ∃ d σd S μ, At G σd S μ σ H ∧ RV G μ S.n H d v ∧ Post G μ S H W (fun σd' S' μ' H' => ∀ σ', REn G μ' S'.n H' σd' σ' → Q σ' H') (g d σd S)
def rdGs (G : Gx) (W : XK) (g : List D → En → M En) : TGs := fun vs σ H Q => ∃ ds σd S μ, At G σd S μ σ H ∧ RVs G μ S.n H ds vs ∧ Post G μ S H W (fun σd' S' μ' H' => ∀ σ', REn G μ' S'.n H' σd' σ' → Q σ' H') (g ds σd S)
abbrev SG (X : Cx) (G : Gx) (W : XK) (tg : Expr) (g : D → En → M En) : Prop := PG X tg (rdG G W g)
abbrev SGs (X : Cx) (G : Gx) (W : XK) (tgs : List Expr) (g : List D → En → M En) : Prop := PGs X tgs (rdGs G W g)
theorem pg_imp {tg : Expr} {t t' : TG} (h : PG X tg t) (m : ∀ v σ H Q, t' v σ H Q → t v σ H Q) : PG X tg t' := ⟨fun pins s σ H v u Q I r q => h.run pins s σ H v u Q I r (m v σ H Q q)⟩
theorem pgs_imp {tg : List Expr} {t t' : TGs} (h : PGs X tg t) (m : ∀ v σ H Q, t' v σ H Q → t v σ H Q) : PGs X tg t' := ⟨fun pins s σ H v u Q I r q => h.run pins s σ H v u Q I r (m v σ H Q q)⟩
def nameG (i : Nat) : D → En → M En := fun d σ => M.pure (σ.set i (some d))
theorem sg_name (i : Nat) {x : Str} {pos : Pos} (hN : X.N.Nodup) (hi : X.N[i]? = some x := by rfl) (hx : Loc X.env.scope x := by first | exact Or.inl rfl | exact Or.inr rfl) (hf : X.fn x = true ∨ X.env.scope.names.lookup x = some .local := by first | exact .inl rfl | exact .inr rfl | assumption) : SG X G W (.Name x pos) (nameG i) :=
  pg_imp (pg_name hN hi hx hf) fun v σ H Q ⟨d, σd, S, μ, a, r, h⟩ => (Post.here a.lnk h) _ (a.en.set r)
def nilG : List D → En → M En := fun ds σ => match ds with
  | [] => M.pure σ
  | _ => M.stk
def consG (g : D → En → M En) (gs : List D → En → M En) : List D → En → M En := fun ds σ => match ds with
  | d :: r => g d σ >>= fun σ' => gs r σ'
  | [] => M.stk
theorem sgs_nil : SGs X G W [] nilG := pgs_imp pgs_nil fun vs σ H Q ⟨ds, σd, S, μ, a, r, h⟩ => by
  cases ds with
  | nil => exact ⟨r, (Post.here a.lnk h) _ a.en⟩
  | cons _ _ => exact h.elim
theorem sgs_cons {tg : Expr} {tgs : List Expr} {g : D → En → M En} {gs : List D → En → M En} (h1 : SG X G W tg g) (h2 : SGs X G W tgs gs) (hs : (assignEach (tg :: tgs) X.env).map (·.2) = assign tg X.env :: (assignEach tgs X.env).map (·.2) := by rfl) : SGs X G W (tg :: tgs) (consG g gs) := by
  refine pgs_imp (pgs_cons h1 h2 hs) fun vs σ H Q ⟨ds, σd, S, μ, a, r, h⟩ => ?_
  cases ds with
  | nil => exact h.elim
  | cons d ds =>
    obtain ⟨v, vr, rfl, r1, r2⟩ := r
    refine ⟨v, vr, rfl, d, σd, S, μ, a, r1, (Post.bind (k := fun σ' => gs ds σ') h).mono fun σd' S1 μ1 H1 s q σ' en => ?_⟩
    exact ⟨ds, σd', S1, μ1, ⟨en, s.lnk⟩, s.rvs a.lnk r2, q⟩
def tupG (n : Nat) (gs : List D → En → M En) : D → En → M En := fun d σ => match tupD d with
  | some ds => if ds.length = n then gs ds σ else M.stk
  | none => M.stk
theorem sg_tup {tgs : List Expr} {k : Nat} {gs : List D → En → M En} (n : Nat) (hK : G.K = X.K) (hc : X.calm = true) (h : SGs X G W tgs gs) (hn : (assignEach tgs X.env).length = n := by rfl) (hst : (assignEach tgs X.env).findIdx? (·.1) = none := by rfl) : SG X G W (.Tuple tgs k pos) (tupG n gs) :=
  pg_imp (pg_tup hc h hn hst) fun v σ H Q ⟨d, σd, S, μ, a, r, p⟩ => by
    unfold tupG at p
    cases e : tupD d with
    | none => rw [e] at p; exact p.elim
    | some ds =>
      rw [e] at p
      obtain ⟨ad, vs, rfl, h1, h2⟩ := tupD_ok r e
      by_cases hl : ds.length = n
      · simp only [hl, if_true] at p
        exact ⟨ad, vs, rfl, by rw [← hK]; exact h1, by rw [← h2.length]; exact hl, ds, σd, S, μ, a, h2, p⟩
      · simp only [hl, if_false] at p
        exact p.elim
def asgS (fe : En → M D) (g : D → En → M En) : En → M Fl := fun σ => fe σ >>= fun d => g d σ >>= fun σ' => M.pure (Fl.nx σ')
theorem ss_asg {tg : Expr} {g : D → En → M En} (he : SE X G W e fe) (hg : SG X G W tg g) (hs : swapsWithSole [tg] e pos.line X.env = pure false := by rfl) (hw : swappedStores [tg] e X.env = pure none := by rfl)
    (h1 : (assignEach [tg] X.env).map (·.2) = [assign tg X.env] := by rfl) : SS X G W (.Assign [tg] e pos) (asgS fe g) := ps_imp (ps_asg he hg hs hw h1) fun Dn σ H ⟨σd, S, μ, a, h⟩ =>
  rdE_bind (k := fun σ d => g d σ >>= fun σ' => M.pure (Fl.nx σ')) a h fun d S1 μ1 H1 v s a1 r q =>
    ⟨d, σd, S1, μ1, a1, r, (Post.bind (k := fun σ' => M.pure (Fl.nx σ')) q).mono fun σd' S2 μ2 H2 s2 q2 => by
      intro σ' en
      exact (Post.here (W := W) s2.lnk q2) σ' en⟩

/-! ### what is walked -/
def ItOk (G : Gx) (J : It) (μ : Nat → Addr) (S : Sto) (H : Hp) (ds : List D) : Prop := ∀ μ' S' H', Stp G μ S H μ' S' H' →
  (∀ i, i < ds.length → J.go i H') ∧ J.stop ds.length H' ∧ ∀ i d, ds[i]? = some d → ∀ x H'', J.yld i H' x H'' → Stp G μ' S' H' μ' S' H'' ∧ RV G μ' S'.n H'' d x
def rdI (G : Gx) (W : XK) (f : En → M (List D)) : TI := fun σ H R => ∃ σd S μ, At G σd S μ σ H ∧ Post G μ S H W (fun ds S' μ' H' => ∀ J, ItOk G J μ' S' H' ds → R J H') (f σd S)
abbrev SI (X : Cx) (G : Gx) (W : XK) (tg e : Expr) (f : En → M (List D)) : Prop := PI X tg e (rdI G W f)
theorem pi_imp {tg e : Expr} {t t' : TI} (h : PI X tg e t) (m : ∀ σ H R, t' σ H R → t σ H R) : PI X tg e t' := ⟨fun pins s σ H R I q => h.run pins s σ H R I (m σ H R q)⟩
theorem pi_or {tg e : Expr} {t t' : TI} (h : PI X tg e t) (h' : PI X tg e t') : PI X tg e (fun σ H R => t σ H R ∨ t' σ H R) := ⟨fun pins s σ H R I q => q.elim (h.run pins s σ H R I) (h'.run pins s σ H R I)⟩
/-- the loop -/
def loopM (g : D → En → M En) (b : En → M Fl) : List D → En → M Fl
  | [], σ => M.pure (Fl.nx σ)
  | d :: ds, σ => g d σ >>= fun σ1 => b σ1 >>= fun (fl : Fl) => match fl with
    | .nx σ2 => loopM g b ds σ2
    | .ct σ2 => loopM g b ds σ2
    | .bk σ2 => M.pure (Fl.nx σ2)
    | .rt d => M.pure (Fl.rt d)
def forS (it : En → M (List D)) (g : D → En → M En) (b : En → M Fl) : En → M Fl := fun σ => it σ >>= fun ds => loopM g b ds σ
theorem ss_for {tg iter : Expr} {body : List Stmt} {it : En → M (List D)} {g : D → En → M En} {b : En → M Fl} (hp : PassesOwn (model X.prog X.w) X.A X.env X.xe) (hc : X.calm = true) (hi : SI X G W tg iter it) (hg : SG X G W tg g) (hb : SSs X G W body b)
    (hs : ∀ x, foldedSetIterable iter X.env x = pure x := by intro _; rfl) : SS X G W (.For tg iter body [] pos) (forS it g b) := by
  refine ps_imp (ps_for hp hc hi hg hb hs) fun Dn σ H ⟨σd, S, μ, a, h⟩ => ?_
  refine ⟨σd, S, μ, a, (Post.bind (k := fun ds => loopM g b ds σd) h).mono fun ds S1 μ1 H1 s q J ok => ?_⟩
  refine ⟨fun i m σ H => m = ds.length - i ∧ i ≤ ds.length ∧ ∃ σd' S' μ', At G σd' S' μ' σ H ∧ Stp G μ1 S1 H1 μ' S' H ∧ Post G μ' S' H W (flP G Dn) (loopM g b (ds.drop i) σd' S'), ⟨ds.length, by simp, Nat.zero_le _, σd, S1, μ1, a.step s, .refl s.lnk, q⟩, ?_⟩
  rintro i m σ' H' ⟨rfl, hi, σd', S', μ', a', s', p⟩
  obtain ⟨o1, o2, o3⟩ := ok μ' S' H' s'
  by_cases hlt : i < ds.length
  · refine .inr ⟨o1 i hlt, fun σ H => ∃ m', m' < ds.length - i ∧ m' = ds.length - (i + 1) ∧ i + 1 ≤ ds.length ∧ ∃ σd' S' μ', At G σd' S' μ' σ H ∧ Stp G μ1 S1 H1 μ' S' H ∧ Post G μ' S' H W (flP G Dn) (loopM g b (ds.drop (i + 1)) σd' S'), fun σ H ⟨m', l, e, r⟩ => ⟨m', l, e, r⟩, fun x H'' y => ?_⟩
    have hd : ds[i]? = some ds[i] := List.getElem?_eq_getElem hlt
    obtain ⟨s2, r2⟩ := o3 i _ hd x H'' y
    rw [List.drop_eq_getElem_cons hlt] at p
    have p1 := Post.bind (k := fun σ1 => b σ1 >>= fun (fl : Fl) => match fl with
      | .nx σ2 => loopM g b (ds.drop (i + 1)) σ2
      | .ct σ2 => loopM g b (ds.drop (i + 1)) σ2
      | .bk σ2 => M.pure (Fl.nx σ2)
      | .rt d => M.pure (Fl.rt d)) p
    refine ⟨ds[i], σd', S', μ', a'.step s2, r2, (p1.later s2).mono fun σd3 S3 μ3 H3 s3 q3 σ3 en3 => ?_⟩
    have st3 : Stp G μ1 S1 H1 μ3 S3 H3 := (s'.trans s2).trans s3
    refine ⟨σd3, S3, μ3, ⟨en3, s3.lnk⟩, (Post.bind (k := fun (fl : Fl) => match fl with
      | .nx σ2 => loopM g b (ds.drop (i + 1)) σ2
      | .ct σ2 => loopM g b (ds.drop (i + 1)) σ2
      | .bk σ2 => M.pure (Fl.nx σ2)
      | .rt d => M.pure (Fl.rt d)) q3).mono fun fl S4 μ4 H4 s4 q4 => ?_⟩
    cases fl with
    | nx σd5 => exact fun σ5 en5 => ⟨ds.length - (i + 1), by omega, rfl, hlt, σd5, S4, μ4, ⟨en5, s4.lnk⟩, st3.trans s4, q4⟩
    | ct σd5 => exact fun σ5 en5 => ⟨ds.length - (i + 1), by omega, rfl, hlt, σd5, S4, μ4, ⟨en5, s4.lnk⟩, st3.trans s4, q4⟩
    | bk σd5 => exact fun σ5 en5 => (Post.here s4.lnk q4) σ5 en5
    | rt d => exact fun v r => (Post.here s4.lnk q4) v r
  · have e : i = ds.length := by omega
    subst e
    rw [List.drop_length] at p
    exact .inl ⟨o2, (Post.here a'.lnk p) σ' a'.en⟩
/-! ### while -/
def whileM (c : En → M Bool) (b : En → M Fl) : Nat → En → M Fl
  | 0, _ => M.stk
  | n + 1, σ => c σ >>= fun k => if k = true then (b σ >>= fun (fl : Fl) => match fl with
    | .nx σ2 => whileM c b n σ2
    | .ct σ2 => whileM c b n σ2
    | .bk σ2 => M.pure (Fl.nx σ2)
    | .rt d => M.pure (Fl.rt d)) else M.pure (Fl.nx σ)
theorem ss_while (n : Nat) {body : List Stmt} {b : En → M Fl} (hp : PassesOwn (model X.prog X.w) X.A X.env X.xe) (hc : STe X G W c tb) (hb : SSs X G W body b) : SS X G W (.While c body [] pos) (whileM tb b n) := by
  refine ps_imp (ps_while hp hc hb) fun Dn σ H ⟨σd, S, μ, a, h⟩ => ?_
  refine ⟨fun m σ H => ∃ σd S μ, At G σd S μ σ H ∧ Post G μ S H W (flP G Dn) (whileM tb b m σd S), ⟨n, σd, S, μ, a, h⟩, ?_⟩
  rintro m σ' H' ⟨σd', S', μ', a', p⟩
  cases m with
  | zero => exact p.elim
  | succ m =>
    refine rdT_bind (k := fun σ k => if k = true then (b σ >>= fun (fl : Fl) => match fl with
      | .nx σ2 => whileM tb b m σ2
      | .ct σ2 => whileM tb b m σ2
      | .bk σ2 => M.pure (Fl.nx σ2)
      | .rt d => M.pure (Fl.rt d)) else M.pure (Fl.nx σ)) a' p fun k S1 μ1 H1 s a1 q => ?_
    cases k with
    | false => exact (Post.here a1.lnk q) σ' a1.en
    | true =>
      refine ⟨fun σ H => ∃ σd S μ, At G σd S μ σ H ∧ Post G μ S H W (flP G Dn) (whileM tb b m σd S), fun σ2 H2 z => ⟨m, Nat.lt_succ_self _, z⟩, σd', S1, μ1, a1, (Post.bind (k := fun (fl : Fl) => match fl with
        | .nx σ2 => whileM tb b m σ2
        | .ct σ2 => whileM tb b m σ2
        | .bk σ2 => M.pure (Fl.nx σ2)
        | .rt d => M.pure (Fl.rt d)) q).mono fun fl S4 μ4 H4 s4 q4 => ?_⟩
      cases fl with
      | nx σd5 => exact fun σ5 en5 => ⟨σd5, S4, μ4, ⟨en5, s4.lnk⟩, q4⟩
      | ct σd5 => exact fun σ5 en5 => ⟨σd5, S4, μ4, ⟨en5, s4.lnk⟩, q4⟩
      | bk σd5 => exact fun σ5 en5 => (Post.here s4.lnk q4) σ5 en5
      | rt d => exact fun v r => (Post.here s4.lnk q4) v r
end
end Fd

set_option Elab.async false
set_option linter.all false
set_option maxRecDepth 100000
set_option maxHeartbeats 1000000
namespace Fd
open PySem PySem.Spec PyProof.Rows L2
/-! ### locked while it is walked -/
def isCont : SO → Bool
  | .lst _ => true
  | .dct _ _ => true
  | .ins _ _ => false
/-- the object that is locked through f: any; g says which -/
def lockM {α : Type} (g : En → Sto → Option Nat) (f : En → M α) : En → M α := fun σ S => match g σ S with
  | some l => if S.locked l = true then .stk else match S.objs[l]? with
    | some o => if isCont o = true then (match f σ { S with lck := l :: S.lck } with
      | .ok a S' => if S'.lck = l :: S.lck then .ok a { S' with lck := S.lck } else .stk
      | _ => .stk) else .stk
    | none => .stk
  | none => .stk
section
variable {G : Gx} {μ : Nat → Addr} {S : Sto} {H : Hp}
theorem LO.locked {n : Nat} {b : Bool} {a : Addr} {o : SO} (hc : isCont o = true) (h : LO G μ n H b a o) : ∃ u, Held b H a u ∧ Mut (some u) ∧ (∀ od z, u ≠ .frz od z) ∧ (∀ ps, u ≠ .tbl ps) ∧ (∀ φ, u ≠ .ext φ) ∧ ∀ (H' : Hp) (b' : Bool) (μ' : Nat → Addr) (n' : Nat), (∀ d v, RV G μ n H d v → RV G μ' n' H' d v) → Held b' H' a u → LO G μ' n' H' b' a o := by
  cases o with
  | lst ds =>
    obtain ⟨vs, h1, h2⟩ := h
    exact ⟨_, h1, True.intro, fun _ _ e => (by cases e), fun _ e => (by cases e), fun _ e => (by cases e), fun H' b' μ' n' m h => ⟨vs, h, .of (Paired.mapP h2.paired m)⟩⟩
  | dct t kvs =>
    obtain ⟨vs, o, h1, h2, h3⟩ := h
    refine ⟨o, h1, ?_, fun _ _ e => (by cases h2 <;> cases e), fun _ e => (by cases h2 <;> cases e), fun _ e => (by cases h2 <;> cases e), fun H' b' μ' n' m h => ⟨vs, o, h, h2, .of (Paired.mapP h3.paired fun p q z => ⟨z.1, m _ _ z.2⟩)⟩⟩
    cases h2 <;> exact True.intro
  | ins c fs => cases hc
/-- into the lock -/
theorem Stp.lock (L : Lnk G μ S H) {l : Nat} {o : SO} (eo : S.objs[l]? = some o) (hc : isCont o = true) (hl : S.locked l = false) : ∃ u, H (μ l) = some u ∧ Mut (some u) ∧ (∀ od z, u ≠ .frz od z) ∧ ∀ od, Stp G μ S H μ { S with lck := l :: S.lck } (upd H (μ l) (.frz od u)) := by
  have h := L.ob l o eo
  obtain ⟨u, hu, mu, nf, nt, nx, back⟩ := h.locked hc
  rw [hl] at hu
  have hu : H (μ l) = some u := hu
  have hlt : l < S.n := (List.getElem?_eq_some_iff.mp eo).1
  refine ⟨u, hu, mu, nf, fun od => ?_⟩
  have g := grow_put (u := .frz od u) L hlt hu nf (fun _ e => by cases e)
  refine ⟨⟨L.inj, fun i ob e => ?_, G.tst _ _ (fun b z e hz => ?_) L.tab, fun i hi => ?_⟩, g⟩
  · by_cases hi : i = l
    · subst hi
      have e : S.objs[i]? = some ob := e
      rw [eo] at e; cases e
      refine back _ _ _ _ (fun d v r => r.mono g L.tf) ?_
      have hb : Sto.locked { S with lck := i :: S.lck } i = true := by simp [Sto.locked]
      rw [hb]
      exact ⟨od, upd_same⟩
    · have e : S.objs[i]? = some ob := e
      have hb : Sto.locked { S with lck := l :: S.lck } i = S.locked i := by simp [Sto.locked, hi]
      rw [hb]
      have hil : i < S.n := (List.getElem?_eq_some_iff.mp e).1
      exact (L.ob i ob e).mono g L.tf (upd_ne fun q => hi (L.inj i hil l hlt q))
  · rw [upd_ne (fun q => ?_)]
    · exact e
    · rw [q, hu] at e
      cases e
      rcases hz with ⟨ps, rfl⟩ | ⟨φ, rfl⟩
      · exact nt _ rfl
      · exact nx _ rfl
  · rcases List.mem_cons.mp hi with z | z
    · rw [z]; exact hlt
    · exact L.lk i z
mutual
theorem RV.chg {n : Nat} {H' : Hp} (k : ∀ a o, H a = some o → NotOwn μ n a → (∀ ps, o ≠ .tbl ps) → H' a = some o) (t : ∀ a xs, H a = some (.tup xs) → H' a = some (.tup xs)) : ∀ (d : D) (v : V), RV G μ n H d v → RV G μ n H' d v
  | .non, _, h => h
  | .bl _, _, h => h
  | .int _, _, h => h
  | .str _, _, h => h
  | .tup ds, _, h => by
    obtain ⟨a, vs, h1, h2, h3⟩ := h
    exact ⟨a, vs, h1, t _ _ h2, RVs.chg k t ds vs h3⟩
  | .kt ds, _, h => by
    obtain ⟨a, vs, h1, h2, h3⟩ := h
    exact ⟨a, vs, h1, h2, RVs.chg k t ds vs h3⟩
  | .kl ds, _, h => by
    obtain ⟨a, vs, h1, h2, h3⟩ := h
    exact ⟨a, vs, h1, h2, RVs.chg k t ds vs h3⟩
  | .lst ds, _, h => by
    obtain ⟨a, vs, h1, h2, h3, h4⟩ := h
    exact ⟨a, vs, h1, h2, k _ _ h3 h2 (fun _ e => by cases e), RVs.chg k t ds vs h4⟩
  | .dct _ ds, _, h => by
    obtain ⟨a, vs, od, o, h1, h2, h3, h4, h5⟩ := h
    exact ⟨a, vs, od, o, h1, h2, k _ _ h3 h2 (fun _ e => by cases e), h4, RVk.chg k t ds vs h5⟩
  | .ft ds, _, h => by
    obtain ⟨a, vs, od, h1, h2, h3, h4, h5⟩ := h
    exact ⟨a, vs, od, h1, h2, k _ _ h3 h2 (fun _ e => by cases e), h4, RVs.chg k t ds vs h5⟩
  | .ref l, _, h => h
  | .lam i, _, h => by
    obtain ⟨a, o, c, oc, h1, h2, h3, h4, h5, h6, h7, h8⟩ := h
    exact ⟨a, o, c, oc, h1, h2, k _ _ h3 h2 h5, h4, h5, h6, k _ _ h7 h6 h8, h8⟩
theorem RVs.chg {n : Nat} {H' : Hp} (k : ∀ a o, H a = some o → NotOwn μ n a → (∀ ps, o ≠ .tbl ps) → H' a = some o) (t : ∀ a xs, H a = some (.tup xs) → H' a = some (.tup xs)) : ∀ (ds : List D) (vs : List V), RVs G μ n H ds vs → RVs G μ n H' ds vs
  | [], _, h => h
  | d :: ds, vs, h => by
    obtain ⟨v, r, h1, h2, h3⟩ := h
    exact ⟨v, r, h1, RV.chg k t d v h2, RVs.chg k t ds r h3⟩
theorem RVk.chg {n : Nat} {H' : Hp} (k : ∀ a o, H a = some o → NotOwn μ n a → (∀ ps, o ≠ .tbl ps) → H' a = some o) (t : ∀ a xs, H a = some (.tup xs) → H' a = some (.tup xs)) : ∀ (ds : List (DK × D)) (vs : List (DK × V)), RVk G μ n H ds vs → RVk G μ n H' ds vs
  | [], _, h => h
  | (kk, d) :: ds, vs, h => by
    obtain ⟨v, r, h1, h2, h3⟩ := h
    exact ⟨v, r, h1, RV.chg k t d v h2, RVk.chg k t ds r h3⟩
end
theorem LO.chg {n : Nat} {H' : Hp} {b b' : Bool} {a : Addr} (m : ∀ d v, RV G μ n H d v → RV G μ n H' d v) (e : H' a = H a) (hb : b' = b) : ∀ {o : SO}, LO G μ n H b a o → LO G μ n H' b' a o
  | .lst ds, ⟨vs, h1, h2⟩ => ⟨vs, by unfold Held at *; rw [e, hb]; exact h1, .of (Paired.mapP h2.paired m)⟩
  | .dct t kvs, ⟨vs, o, h1, h2, h3⟩ => ⟨vs, o, by unfold Held at *; rw [e, hb]; exact h1, h2, .of (Paired.mapP h3.paired fun p q z => ⟨z.1, m _ _ z.2⟩)⟩
  | .ins c fs, ⟨dx, fs', h1, h2⟩ => ⟨dx, fs', by rw [e]; exact h1, Paired.mapP h2 fun p q z => ⟨z.1, m _ _ z.2⟩⟩
/-- out of the lock -/
theorem Stp.unlock (L : Lnk G μ S H) {l : Nat} {o : SO} {u : HO} {od : Obj} (eo : S.objs[l]? = some o) (hc : isCont o = true) (hl : S.locked l = false) (hu : H (μ l) = some u) (nf : ∀ od z, u ≠ .frz od z) {μ' : Nat → Addr} {S' : Sto} {H' : Hp}
    (s : Stp G μ { S with lck := l :: S.lck } (upd H (μ l) (.frz od u)) μ' S' H') (e : S'.lck = l :: S.lck) : H' (μ l) = some (.frz od u) ∧ Stp G μ S H μ' { S' with lck := S.lck } (upd H' (μ l) u) ∧ (∀ d v, RV G μ' S'.n H' d v → RV G μ' S'.n (upd H' (μ l) u) d v) := by
  have hlt : l < S.n := (List.getElem?_eq_some_iff.mp eo).1
  have fz : H' (μ l) = some (.frz od u) := s.grow.ext.frz _ _ _ upd_same
  have hlt' : l < S'.n := Nat.lt_of_lt_of_le hlt s.grow.agr.1
  have ml : μ' l = μ l := s.grow.agr.2 l hlt
  have nl : S.lck.contains l = false := hl
  obtain ⟨u1, hu1, _, nf1, nt, nx, _⟩ := (L.ob l o eo).locked hc
  rw [hl] at hu1
  have hu1 : H (μ l) = some u1 := hu1
  rw [hu] at hu1; cases hu1
  have m : ∀ d v, RV G μ' S'.n H' d v → RV G μ' S'.n (upd H' (μ l) u) d v := fun d v r => r.chg (fun a o ea na _ => by rw [upd_ne (fun q => na l hlt' (by rw [ml, q]))]; exact ea) (fun a xs ea => by rw [upd_ne (fun q => by rw [q, fz] at ea; cases ea)]; exact ea) d v
  refine ⟨fz, ⟨⟨fun i hi j hj q => s.lnk.inj i hi j hj q, fun i ob ei => ?_, ?_, fun i hi => ?_⟩, ⟨⟨s.grow.agr.1, s.grow.agr.2⟩, fun i h1 h2 o e => ?_, fun a z ea na nt => ?_, fun a od' z ea => ?_, fun a z ea ntz => ?_⟩⟩, m⟩
  · have ei : S'.objs[i]? = some ob := ei
    have h := s.lnk.ob i ob ei
    by_cases hi : i = l
    · subst hi
      have bl : S'.locked i = true := by
        show S'.lck.contains i = true
        rw [e]; simp
      rw [bl] at h
      have hc' : isCont ob = true := by
        cases ob with
        | ins c fs =>
          obtain ⟨dx, fs', h1, _⟩ := h
          rw [ml, fz] at h1; cases h1
        | _ => rfl
      obtain ⟨u2, hu2, _, _, _, _, back⟩ := h.locked hc'
      obtain ⟨od2, hu2⟩ := (show ∃ od, H' (μ' i) = some (.frz od u2) from hu2)
      rw [ml, fz] at hu2
      cases hu2
      refine back _ _ _ _ m ?_
      show Held (S.lck.contains i) _ _ _
      rw [nl, ml]
      exact upd_same
    · have hil : i < S'.n := (List.getElem?_eq_some_iff.mp ei).1
      refine h.chg m (upd_ne fun q => hi (s.lnk.inj i hil l hlt' (by rw [q, ml]))) ?_
      show S.lck.contains i = S'.lck.contains i
      rw [e]
      simp [hi]
  · refine G.tst _ _ (fun b z ez hz => ?_) s.lnk.tab
    rw [upd_ne (fun q => ?_)]
    · exact ez
    · rw [q, fz] at ez
      cases ez
      rcases hz with ⟨ps, z⟩ | ⟨φ, z⟩ <;> cases z
  · exact Nat.lt_of_lt_of_le (L.lk i hi) s.grow.agr.1
  · by_cases q : μ' i = μ l
    · obtain ⟨ps, z⟩ := s.grow.frsh i h1 h2 _ (by rw [q, upd_same])
      cases z
    · exact s.grow.frsh i h1 h2 o (by rw [upd_ne q]; exact e)
  · have ne : a ≠ μ l := fun q => na l hlt q.symm
    rw [upd_ne ne]
    exact s.grow.ext.keep a z (by rw [upd_ne ne]; exact ea) na nt
  · have ne : a ≠ μ l := fun q => by rw [q, hu] at ea; cases ea; exact nf _ _ rfl
    rw [upd_ne ne]
    exact s.grow.ext.frz a od' z (by rw [upd_ne ne]; exact ea)
  · by_cases q : a = μ l
    · exact ⟨u, by rw [q, upd_same], nt⟩
    · obtain ⟨z', e', n'⟩ := s.grow.ext.there a z (by rw [upd_ne q]; exact ea) ntz
      exact ⟨z', by rw [upd_ne q]; exact e', n'⟩
end
section
variable {X : Cx} {G : Gx} {W : XK} {st : Stmt} {f : En → M Fl} {e : Expr} {fe : En → M D}
theorem lock_cases {α : Type} {g : En → Sto → Option Nat} {f : En → M α} {σd : En} {S : Sto} {μ : Nat → Addr} {H : Hp} {Q : α → Sto → (Nat → Addr) → Hp → Prop} (h : Post G μ S H W Q (lockM g f σd S)) :
    ∃ l o a S', S.objs[l]? = some o ∧ isCont o = true ∧ S.locked l = false ∧ f σd { S with lck := l :: S.lck } = .ok a S' ∧ S'.lck = l :: S.lck ∧ Post G μ S H W Q (.ok a { S' with lck := S.lck }) := by
  unfold lockM at h
  cases e1 : g σd S with
  | none => rw [e1] at h; exact h.elim
  | some l =>
    simp only [e1] at h
    by_cases hl : S.locked l = true
    · rw [if_pos hl] at h; exact h.elim
    · rw [if_neg hl] at h
      cases e2 : S.objs[l]? with
      | none => rw [e2] at h; exact h.elim
      | some o =>
        simp only [e2] at h
        by_cases hc : isCont o = true
        · rw [if_pos hc] at h
          cases e3 : f σd { S with lck := l :: S.lck } with
          | exc c S' => rw [e3] at h; exact h.elim
          | stk => rw [e3] at h; exact h.elim
          | ok a S' =>
            simp only [e3] at h
            by_cases he : S'.lck = l :: S.lck
            · rw [if_pos he] at h
              exact ⟨l, o, a, S', e2, hc, by simpa using hl, e3, he, h⟩
            · rw [if_neg he] at h; exact h.elim
        · rw [if_neg hc] at h; exact h.elim
theorem ss_lock (g : En → Sto → Option Nat) (h : SS X G W st f) : SS X G W st (lockM g f) := by
  refine ps_imp (ps_lock h) fun Dn σ H ⟨σd, S, μ, a, p⟩ => ?_
  obtain ⟨l, o, fl, S', eo, hc, hl, ef, el, p⟩ := lock_cases p
  obtain ⟨u, hu, mu, nf, lk⟩ := Stp.lock a.lnk eo hc hl
  refine ⟨μ l, u, hu, mu, fun od => ⟨σd, { S with lck := l :: S.lck }, μ, a.step (lk od), ?_⟩⟩
  rw [ef]
  intro μ' H' s
  obtain ⟨fz, s2, m⟩ := Stp.unlock a.lnk eo hc hl hu nf s el
  have q := p μ' _ s2
  have men : ∀ σd σ, REn G μ' S'.n H' σd σ → REn G μ' S'.n (upd H' (μ l) u) σd σ := fun σd σ r => ⟨r.len, fun i d e => by
    obtain ⟨v, h1, h2⟩ := r.at_ i d e
    exact ⟨v, h1, m d v h2⟩⟩
  cases fl with
  | nx σd' => exact fun σ' en => ⟨fz, q σ' (men _ _ en)⟩
  | bk σd' => exact fun σ' en => ⟨fz, q σ' (men _ _ en)⟩
  | ct σd' => exact fun σ' en => ⟨fz, q σ' (men _ _ en)⟩
  | rt d => exact fun v r => ⟨fz, q v (m d v r)⟩
theorem se_lock (g : En → Sto → Option Nat) (h : SE X G W e fe) : SE X G W e (lockM g fe) := by
  refine pe_imp (pe_lock h) fun σ H Q ⟨σd, S, μ, a, p⟩ => ?_
  obtain ⟨l, o, d, S', eo, hc, hl, ef, el, p⟩ := lock_cases p
  obtain ⟨u, hu, mu, nf, lk⟩ := Stp.lock a.lnk eo hc hl
  refine ⟨μ l, u, hu, mu, fun od => ⟨σd, { S with lck := l :: S.lck }, μ, a.step (lk od), ?_⟩⟩
  rw [ef]
  intro μ' H' s v r
  obtain ⟨fz, s2, m⟩ := Stp.unlock a.lnk eo hc hl hu nf s el
  exact ⟨fz, p μ' _ s2 v (m d v r)⟩
/-! ### a value that stays as it is: its object is known from now on -/
def tFrz (t : TE) : TE := fun σ H Q => t σ H fun x H1 => ∃ p u, x = .ref p ∧ H1 p = some u ∧ Mut (some u) ∧ ∀ od, Q x (upd H1 p (.frz od u))
theorem pe_frz {t : TE} (h : PE X e t) : PE X e (tFrz t) := ⟨fun pins s σ H Q I q => thn (h.run pins s σ H _ I q) fun v s1 ⟨x, H1, I1, r, p, u, ex, hu, mu, q⟩ => by
  obtain ⟨od, I2⟩ := I1.lock hu mu
  exact ⟨x, _, I2, r, q od⟩⟩
/-! ### sources -/
/-- the things in order of a list, a tuple, a text, a dict that is known or locked -/
def itemsOf : D → M (List D) := fun x S => match x with
  | .tup ds => .ok ds S
  | .kt ds => .ok ds S
  | .ft ds => .ok ds S
  | .lst ds => .ok ds S
  | .str z => .ok (z.cps.toList.map fun c => .str ⟨#[c]⟩) S
  | .dct _ kvs => .ok (kvs.map fun p => dkD p.1) S
  | .ref l => if S.locked l = true then (match S.objs[l]? with
    | some (.lst ds) => .ok ds S
    | some (.dct _ kvs) => .ok (kvs.map fun p => dkD p.1) S
    | _ => .stk) else .stk
  | _ => .stk
def itSeq (fe : En → M D) : En → M (List D) := fun σ => fe σ >>= itemsOf
theorem rvs_get {μ : Nat → Addr} {n : Nat} {H : Hp} : ∀ {ds : List D} {vs : List V} {j : Nat} {d : D}, RVs G μ n H ds vs → ds[j]? = some d → ∃ v, vs[j]? = some v ∧ RV G μ n H d v
  | [], _, _, _, _, e => by simp at e
  | x :: xs, _, 0, d, ⟨v, r', e1, h1, h2⟩, e => by
    simp at e; subst e e1
    exact ⟨v, rfl, h1⟩
  | x :: xs, _, j + 1, d, ⟨v, r', e1, h1, h2⟩, e => by
    subst e1
    rw [List.getElem?_cons_succ] at e
    obtain ⟨w, h3, h4⟩ := rvs_get h2 e
    exact ⟨w, by rw [List.getElem?_cons_succ]; exact h3, h4⟩
theorem itok_list {μ : Nat → Addr} {S : Sto} {H : Hp} (L : Lnk G μ S H) {K : PySem.W.Frag} {a : Addr} {ds : List D} {vs : List V} (r : RVs G μ S.n H ds vs) (h : (H a = some (.lst vs) ∧ NotOwn μ S.n a) ∨ ∃ od, H a = some (.frz od (.lst vs))) : ItOk G (Itl K a) μ S H ds := fun μ' S' H' s => by
  have hs : SqL K H' a vs := by
    rcases h with ⟨h, no⟩ | ⟨od, h⟩
    · exact .of (s.grow.ext.keep a _ h no (fun _ e => by cases e))
    · exact .inl (.inr ⟨od, s.grow.ext.frz _ _ _ h⟩)
  refine ⟨fun i hi => ?_, ⟨vs, hs, by rw [r.length]; exact Nat.le_refl _⟩, fun i d e x H'' ⟨e1, e2⟩ => ?_⟩
  · obtain ⟨v, hv, _⟩ := rvs_get r (List.getElem?_eq_getElem hi)
    exact ⟨vs, v, hs, hv⟩
  · subst e1
    obtain ⟨v, hv, rv⟩ := rvs_get (s.rvs L r) e
    have q := e2 vs hs
    rw [hv] at q; cases q
    exact ⟨.refl s.lnk, rv⟩
theorem itok_tup {μ : Nat → Addr} {S : Sto} {H : Hp} (L : Lnk G μ S H) {K : PySem.W.Frag} {a : Addr} {ds : List D} {vs : List V} (r : RVs G μ S.n H ds vs) (h : H a = some (.tup vs) ∨ KTup K a vs) : ItOk G (Itt K a) μ S H ds := fun μ' S' H' s => by
  have hs : SqT K H' a vs := by
    rcases h with h | h
    · exact .of (tup_keep s.grow.ext L.tf h)
    · exact .inr h
  refine ⟨fun i hi => ?_, ⟨vs, hs, by rw [r.length]; exact Nat.le_refl _⟩, fun i d e x H'' ⟨e1, e2⟩ => ?_⟩
  · obtain ⟨v, hv, _⟩ := rvs_get r (List.getElem?_eq_getElem hi)
    exact ⟨vs, v, hs, hv⟩
  · subst e1
    obtain ⟨v, hv, rv⟩ := rvs_get (s.rvs L r) e
    have q := e2 vs hs
    rw [hv] at q; cases q
    exact ⟨.refl s.lnk, rv⟩
theorem itok_ft {μ : Nat → Addr} {S : Sto} {H : Hp} (L : Lnk G μ S H) {K : PySem.W.Frag} {a : Addr} {ds : List D} {vs : List V} {od : Obj} (r : RVs G μ S.n H ds vs) (h : H a = some (.frz od (.tup vs))) : ItOk G (Itt K a) μ S H ds := fun μ' S' H' s => by
  have hs : SqT K H' a vs := .inl (.inr ⟨od, s.grow.ext.frz _ _ _ h⟩)
  refine ⟨fun i hi => ?_, ⟨vs, hs, by rw [r.length]; exact Nat.le_refl _⟩, fun i d e x H'' ⟨e1, e2⟩ => ?_⟩
  · obtain ⟨v, hv, _⟩ := rvs_get r (List.getElem?_eq_getElem hi)
    exact ⟨vs, v, hs, hv⟩
  · subst e1
    obtain ⟨v, hv, rv⟩ := rvs_get (s.rvs L r) e
    have q := e2 vs hs
    rw [hv] at q; cases q
    exact ⟨.refl s.lnk, rv⟩
theorem itok_str {μ : Nat → Addr} {S : Sto} {H : Hp} (z : Str) : ItOk G (Its z) μ S H (z.cps.toList.map fun c => .str ⟨#[c]⟩) := fun μ' S' H' s => by
  refine ⟨fun i hi => ?_, ?_, fun i d e x H'' ⟨e1, c, e2, e3⟩ => ?_⟩
  · rw [List.length_map] at hi
    show i < z.cps.size
    simpa using hi
  · rw [List.length_map]
    show z.cps.size ≤ z.cps.toList.length
    simp
  · subst e1 e3
    rw [List.getElem?_map, Array.getElem?_toList, e2] at e
    cases e
    exact ⟨.refl s.lnk, rfl⟩
theorem rvk_keys {μ : Nat → Addr} {n : Nat} {H : Hp} {kvs : List (DK × D)} {vs : List (DK × V)} (r : RVk G μ n H kvs vs) : kvs.map (·.1) = vs.map (·.1) := by
  have q := r.paired
  clear r
  induction q with
  | nil => rfl
  | cons h t ih => rw [List.map_cons, List.map_cons, h.1, ih]
theorem itok_dct {μ : Nat → Addr} {S : Sto} {H : Hp} {d : Addr} {od : Obj} {t : Bool} {kvs : List (DK × D)} {vs : List (DK × V)} {o : HO} (r : RVk G μ S.n H kvs vs) (h : HOd t vs o) (hf : H d = some (.frz od o)) :
    (∃ l, o = .dK l ∧ ItOk G (Itk d od l) μ S H (kvs.map fun p => dkD p.1)) ∨ ∃ l, o = .dT l ∧ ItOk G (Itkt d od l) μ S H (kvs.map fun p => dkD p.1) := by
  have ek := rvk_keys r
  have el := r.length
  cases h with
  | k l =>
    refine .inl ⟨l, rfl, fun μ' S' H' s => ?_⟩
    have hf' := s.grow.ext.frz _ _ _ hf
    have hn : kvs.length = l.length := by rw [el, List.length_map]
    refine ⟨fun i hi => ⟨hf', by rw [List.length_map] at hi; omega⟩, ⟨hf', by rw [List.length_map]; omega⟩, fun i dd e x H'' ⟨e1, k, v, e2, e3⟩ => ?_⟩
    subst e1 e3
    rw [List.getElem?_map] at e
    cases e4 : kvs[i]? with
    | none => rw [e4] at e; cases e
    | some p =>
      rw [e4] at e
      cases e
      have z : (kvs.map (·.1))[i]? = some p.1 := by rw [List.getElem?_map, e4]; rfl
      rw [ek, List.map_map, List.getElem?_map, e2] at z
      have z : some (DK.k k) = some p.1 := z
      refine ⟨.refl s.lnk, ?_⟩
      show RV G _ _ _ (dkD p.1) _
      rw [← (Option.some.inj z)]
      cases k <;> rfl
  | t l =>
    refine .inr ⟨l, rfl, fun μ' S' H' s => ?_⟩
    have hf' := s.grow.ext.frz _ _ _ hf
    have hn : kvs.length = l.length := by rw [el, List.length_map]
    refine ⟨fun i hi => ⟨hf', by rw [List.length_map] at hi; omega⟩, ⟨hf', by rw [List.length_map]; omega⟩, fun i dd e x H'' ⟨e1, k, v, q, e2, e3, e5⟩ => ?_⟩
    subst e1 e3
    rw [List.getElem?_map] at e
    cases e4 : kvs[i]? with
    | none => rw [e4] at e; cases e
    | some p =>
      rw [e4] at e
      cases e
      have z : (kvs.map (·.1))[i]? = some p.1 := by rw [List.getElem?_map, e4]; rfl
      rw [ek, List.map_map, List.getElem?_map, e2] at z
      have z : some (DK.t k) = some p.1 := z
      refine ⟨.refl s.lnk, ?_⟩
      show RV G _ _ _ (dkD p.1) _
      rw [← (Option.some.inj z)]
      refine ⟨q, _, rfl, e5, ?_⟩
      have key : ∀ ks : List Key, RVs G μ' S'.n H'' (ks.map kD) (ks.map kV) := by
        intro ks
        induction ks with
        | nil => rfl
        | cons a r ih => exact ⟨kV a, _, rfl, by cases a <;> rfl, ih⟩
      exact key k
theorem si_seq {tg : Expr} (hK : G.K = X.K) (he : SE X G W e fe) : SI X G W tg e (itSeq fe) := by
  refine pi_imp (pi_or (pi_or (pi_list he) (pi_tup he)) (pi_or (pi_str he) (pi_keys he))) fun σ H R ⟨σd, S, μ, a, h⟩ => ?_
  have h := Post.bind (k := itemsOf) h
  -- by what comes
  have go : ∀ (T : VK), (∀ d S1 μ1 H1 v, Stp G μ S H μ1 S1 H1 → RV G μ1 S1.n H1 d v → Post G μ1 S1 H1 W (fun ds S' μ' H' => ∀ J, ItOk G J μ' S' H' ds → R J H') (itemsOf d S1) → fe σd S = .ok d S1 → T v H1) → rdE G W fe σ H T := fun T hT => by
    refine ⟨σd, S, μ, a, ?_⟩
    cases e1 : fe σd S with
    | ok d S1 =>
      rw [e1] at h
      exact fun μ1 H1 s v r => hT d S1 μ1 H1 v s r (h μ1 H1 s) e1
    | exc c S1 => rw [e1] at h; exact h
    | stk => rw [e1] at h; exact h
  cases e1 : fe σd S with
  | exc c S1 => exact .inl (.inl (go _ fun d S2 μ1 H1 v s r p ef => by rw [e1] at ef; cases ef))
  | stk => rw [e1] at h; exact h.elim
  | ok d S1 =>
    cases d with
    | tup ds =>
      refine .inl (.inr (go _ fun d' S2 μ1 H1 v s r p ef => ?_))
      rw [e1] at ef; cases ef
      obtain ⟨ad, vs, rfl, h1, h2⟩ := r
      exact ⟨ad, rfl, ⟨vs, .of h1⟩, (Post.here (W := W) s.lnk p) _ (itok_tup s.lnk h2 (.inl h1))⟩
    | kt ds =>
      refine .inl (.inr (go _ fun d' S2 μ1 H1 v s r p ef => ?_))
      rw [e1] at ef; cases ef
      obtain ⟨ad, vs, rfl, h1, h2⟩ := r
      rw [hK] at h1
      exact ⟨ad, rfl, ⟨vs, .inr h1⟩, (Post.here (W := W) s.lnk p) _ (itok_tup s.lnk h2 (.inr h1))⟩
    | ft ds =>
      refine .inl (.inr (go _ fun d' S2 μ1 H1 v s r p ef => ?_))
      rw [e1] at ef; cases ef
      obtain ⟨ad, vs, od, rfl, _, h1, _, h2⟩ := r
      exact ⟨ad, rfl, ⟨vs, .inl (.inr ⟨od, h1⟩)⟩, (Post.here (W := W) s.lnk p) _ (itok_ft s.lnk h2 h1)⟩
    | lst ds =>
      refine .inl (.inl (go _ fun d' S2 μ1 H1 v s r p ef => ?_))
      rw [e1] at ef; cases ef
      obtain ⟨ad, vs, rfl, no, h1, h2⟩ := r
      exact ⟨ad, rfl, ⟨vs, .of h1⟩, (Post.here (W := W) s.lnk p) _ (itok_list s.lnk h2 (.inl ⟨h1, no⟩))⟩
    | str z =>
      refine .inr (.inl (go _ fun d' S2 μ1 H1 v s r p ef => ?_))
      rw [e1] at ef; cases ef
      exact ⟨z, r, (Post.here (W := W) s.lnk p) _ (itok_str z)⟩
    | dct t kvs =>
      refine .inr (.inr (go _ fun d' S2 μ1 H1 v s r p ef => ?_))
      rw [e1] at ef; cases ef
      obtain ⟨ad, vs, od, o, rfl, no, h1, h2, h3⟩ := r
      refine ⟨ad, od, rfl, ?_⟩
      rcases itok_dct h3 h2 h1 with ⟨l, rfl, z⟩ | ⟨l, rfl, z⟩
      · exact .inl ⟨l, h1, (Post.here (W := W) s.lnk p) _ z⟩
      · exact .inr ⟨l, h1, (Post.here (W := W) s.lnk p) _ z⟩
    | ref l =>
      rw [e1] at h
      by_cases hl : S1.locked l = true
      · cases eo : S1.objs[l]? with
        | none =>
          refine .inl (.inl (go _ fun d' S2 μ1 H1 v s r p ef => ?_))
          rw [e1] at ef; cases ef
          unfold itemsOf at p
          simp only [hl, if_true, eo] at p
          exact p.elim
        | some o =>
          cases o with
          | lst ds =>
            refine .inl (.inl (go _ fun d' S2 μ1 H1 v s r p ef => ?_))
            rw [e1] at ef; cases ef
            unfold itemsOf at p
            simp only [hl, if_true, eo] at p
            obtain ⟨_, h2⟩ := r
            obtain ⟨vs, q1, q2⟩ := s.lnk.ob l _ eo
            rw [hl] at q1
            obtain ⟨od, q1⟩ := (show ∃ od, H1 (μ1 l) = some (.frz od (.lst vs)) from q1)
            exact ⟨_, h2, ⟨vs, .inl (.inr ⟨od, q1⟩)⟩, (Post.here (W := W) s.lnk p) _ (itok_list s.lnk q2 (.inr ⟨od, q1⟩))⟩
          | dct t kvs =>
            refine .inr (.inr (go _ fun d' S2 μ1 H1 v s r p ef => ?_))
            rw [e1] at ef; cases ef
            unfold itemsOf at p
            simp only [hl, if_true, eo] at p
            obtain ⟨_, h2⟩ := r
            obtain ⟨vs, o, q1, q2, q3⟩ := s.lnk.ob l _ eo
            rw [hl] at q1
            obtain ⟨od, q1⟩ := (show ∃ od, H1 (μ1 l) = some (.frz od o) from q1)
            refine ⟨_, od, h2, ?_⟩
            rcases itok_dct q3 q2 q1 with ⟨l, rfl, z⟩ | ⟨l, rfl, z⟩
            · exact .inl ⟨l, q1, (Post.here (W := W) s.lnk p) _ z⟩
            · exact .inr ⟨l, q1, (Post.here (W := W) s.lnk p) _ z⟩
          | ins c fs =>
            refine .inl (.inl (go _ fun d' S2 μ1 H1 v s r p ef => ?_))
            rw [e1] at ef; cases ef
            unfold itemsOf at p
            simp only [hl, if_true, eo] at p
            exact p.elim
      · refine .inl (.inl (go _ fun d' S2 μ1 H1 v s r p ef => ?_))
        rw [e1] at ef; cases ef
        unfold itemsOf at p
        simp only [hl, if_false] at p
        exact p.elim
    | _ =>
      refine .inl (.inl (go _ fun d' S2 μ1 H1 v s r p ef => ?_))
      rw [e1] at ef; cases ef
      exact p.elim
end
end Fd

set_option Elab.async false
set_option linter.all false
set_option maxRecDepth 100000
set_option maxHeartbeats 1000000
namespace Fd
open PySem PySem.Spec PyProof.Rows L2
/-! ### fields -/
def putFd (f : Str) (v : D) : List (Str × D) → List (Str × D)
  | [] => [(f, v)]
  | (g, x) :: r => if g = f then (g, v) :: r else (g, x) :: putFd f v r
def getF (c : Nat) (S : Sto) : D → Option (Nat × List (Str × D))
  | .ref l => match S.objs[l]? with
    | some (.ins c' fs) => if c' = c then some (l, fs) else none
    | _ => none
  | _ => none
def fldO (c : Nat) (f : Str) : D → M D := fun x S => match getF c S x with
  | some (_, fs) => (match fs.lookup f with
    | some d => .ok d S
    | none => .stk)
  | none => .stk
section
variable {G : Gx} {μ : Nat → Addr} {S : Sto} {H : Hp}
theorem rvf_lookup {n : Nat} {f : Str} {d : D} : ∀ {fs : List (Str × D)} {vs : List (Str × V)}, RVf G μ n H fs vs → fs.lookup f = some d → ∃ v, vs.lookup f = some v ∧ RV G μ n H d v
  | [], _, _, e => by cases e
  | (g, x) :: fs, (g', y) :: vs, .cons ⟨e1, r⟩ t, e => by
    have e1 : g = g' := e1
    subst e1
    rw [List.lookup_cons] at e ⊢
    cases hb : f == g with
    | true =>
      rw [hb] at e
      cases e
      exact ⟨y, rfl, r⟩
    | false =>
      rw [hb] at e
      exact rvf_lookup t e
theorem rvf_none {n : Nat} {f : Str} : ∀ {fs : List (Str × D)} {vs : List (Str × V)}, RVf G μ n H fs vs → fs.lookup f = none → vs.lookup f = none
  | [], [], .nil, _ => rfl
  | (g, x) :: fs, (g', y) :: vs, .cons ⟨e1, r⟩ t, e => by
    have e1 : g = g' := e1
    subst e1
    rw [List.lookup_cons] at e ⊢
    cases hb : f == g with
    | true => rw [hb] at e; cases e
    | false =>
      rw [hb] at e
      exact rvf_none t e
theorem rvf_put {n : Nat} {f : Str} {d : D} {v : V} (r : RV G μ n H d v) : ∀ {fs : List (Str × D)} {vs : List (Str × V)}, RVf G μ n H fs vs → RVf G μ n H (putFd f d fs) (putF f v vs)
  | [], [], .nil => .cons ⟨rfl, r⟩ .nil
  | (g, x) :: fs, (g', y) :: vs, .cons ⟨e1, r1⟩ t => by
    have e1 : g = g' := e1
    subst e1
    unfold putFd putF
    by_cases h : g = f
    · rw [if_pos h, if_pos h]
      exact .cons ⟨rfl, r⟩ t
    · rw [if_neg h, if_neg h]
      exact .cons ⟨rfl, r1⟩ (rvf_put r t)
theorem getF_ok (L : Lnk G μ S H) {c l : Nat} {d : D} {v : V} {fs : List (Str × D)} (r : RV G μ S.n H d v) (e : getF c S d = some (l, fs)) : d = .ref l ∧ l < S.n ∧ S.objs[l]? = some (.ins c fs) ∧ v = .ref (μ l) ∧ ∃ dx fs', H (μ l) = some (.ins (G.cA c) dx fs') ∧ RVf G μ S.n H fs fs' := by
  cases d with
  | ref l' =>
    obtain ⟨h1, h2⟩ := r
    unfold getF at e
    cases eo : S.objs[l']? with
    | none => simp only [eo] at e; cases e
    | some o =>
      cases o with
      | lst _ => simp only [eo] at e; cases e
      | dct _ _ => simp only [eo] at e; cases e
      | ins c' fs' =>
        simp only [eo] at e
        by_cases hc : c' = c
        · rw [if_pos hc] at e
          cases e
          subst hc
          obtain ⟨dx, fs2, q1, q2⟩ := L.ob _ _ eo
          exact ⟨rfl, h1, eo, h2, dx, fs2, q1, q2⟩
        · rw [if_neg hc] at e; cases e
  | _ => cases e
end
section
variable {X : Cx} {G : Gx} {W : XK} {e o : Expr} {fe fo : En → M D} {pos pos' tpos : Pos} {f : Str} {c : Nat}
def fldE (c : Nat) (f : Str) (fe : En → M D) : En → M D := fun σ => fe σ >>= fldO c f
theorem se_fld (c : Nat) (T : Cls X.K (G.cA c)) (nf : NoAttr X.K (G.cA c) f) (he : SE X G W e fe) (hb : attributeBase e f X.env (eval e X.env) = eval e X.env := by rfl) : SE X G W (.Attribute e f pos) (fldE c f fe) := by
  refine pe_imp (pe_fld he hb) fun σ H Q ⟨σd, S, μ, a, h⟩ => ?_
  refine rdE_bind (k := fun _ => fldO c f) a h fun d S1 μ1 H1 v s a1 r p => ?_
  unfold fldO at p
  cases e1 : getF c S1 d with
  | none => rw [e1] at p; exact p.elim
  | some q =>
    obtain ⟨l, fs⟩ := q
    simp only [e1] at p
    cases e2 : fs.lookup f with
    | none => rw [e2] at p; exact p.elim
    | some dv =>
      rw [e2] at p
      obtain ⟨_, _, _, h2, dx, fs', h3, h4⟩ := getF_ok a1.lnk r e1
      obtain ⟨w, h5, h6⟩ := rvf_lookup h4 e2
      exact ⟨μ1 l, _, dx, fs', w, h2, h3, T, nf, h5, (Post.here (W := W) a1.lnk p) w h6⟩
/-- the store behind o.f = d -/
def setFld (c : Nat) (f : Str) (x d : D) : M Unit := fun S => match getF c S x with
  | some (l, fs) => if fs.length < 1000 ∧ S.locked l = false then .ok () (S.put l (.ins c (putFd f d fs))) else .stk
  | none => .stk
theorem stp_fld {μ : Nat → Addr} {S : Sto} {H : Hp} (L : Lnk G μ S H) {c l : Nat} {d dv : D} {v w : V} {fs : List (Str × D)} (r : RV G μ S.n H d v) (e : getF c S d = some (l, fs)) (hk : S.locked l = false) (rw' : RV G μ S.n H dv w) {dx : Addr} {fs' : List (Str × V)} (h3 : H (μ l) = some (.ins (G.cA c) dx fs')) (h4 : RVf G μ S.n H fs fs') :
    Stp G μ S H μ (S.put l (.ins c (putFd f dv fs))) (upd H (μ l) (.ins (G.cA c) dx (putF f w fs'))) := by
  obtain ⟨_, hl, eo, _, _⟩ := getF_ok L r e
  have g := grow_put (u := .ins (G.cA c) dx (putF f w fs')) L hl h3 (fun _ _ e => by cases e) (fun _ e => by cases e)
  exact Stp.put L hl hk h3 (fun _ _ e => by cases e) (fun _ e => by cases e) (fun _ e => by cases e) (fun _ e => by cases e) ⟨dx, _, upd_same, RVf.mono g L.tf (rvf_put rw' h4)⟩
def fldS (c : Nat) (f : Str) (fo fv : En → M D) : En → M Fl := fun σ => fv σ >>= fun d => fo σ >>= fun x => setFld c f x d >>= fun _ => M.pure (Fl.nx σ)
theorem ss_fld (c : Nat) (T : Cls X.K (G.cA c)) (nf : NoAttr X.K (G.cA c) f) (ho : SE X G W o fo) (hv : SE X G W e fe) (hs : swapsWith e (some (.Attribute o f pos')) pos.line X.env = pure false := by rfl) : SS X G W (.Assign [.Attribute o f pos'] e pos) (fldS c f fo fe) := by
  refine ps_imp (ps_fld ho hv hs) fun Dn σ H ⟨σd, S, μ, a, h⟩ => ?_
  refine rdE_bind (k := fun σ d => fo σ >>= fun x => setFld c f x d >>= fun _ => M.pure (Fl.nx σ)) a h fun dv S1 μ1 H1 w s a1 rv p => ?_
  refine rdE_bind (k := fun σ x => setFld c f x dv >>= fun _ => M.pure (Fl.nx σ)) a1 p fun d S2 μ2 H2 v s2 a2 r p => ?_
  have p := Post.bind (k := fun _ => M.pure (Fl.nx σd)) p
  unfold setFld at p
  cases e1 : getF c S2 d with
  | none => rw [e1] at p; exact p.elim
  | some q =>
    obtain ⟨l, fs⟩ := q
    simp only [e1] at p
    by_cases hc : fs.length < 1000 ∧ S2.locked l = false
    · rw [if_pos hc] at p
      obtain ⟨_, _, _, h2, dx, fs', h3, h4⟩ := getF_ok a2.lnk r e1
      have rv2 := s2.rv a1.lnk rv
      have st := stp_fld (f := f) a2.lnk r e1 hc.2 rv2 h3 h4
      have a3 := a2.step st
      exact ⟨μ2 l, _, dx, fs', h2, h3, T, nf, by rw [← Paired.length h4]; exact hc.1, (Post.here (W := W) a3.lnk (Post.step st p)) σ a3.en⟩
    · rw [if_neg hc] at p; exact p.elim
theorem inop_of {op : Operator} {g : D → D → M D} (h : OpD X G W (inplaceOp op) g) : InOp X op (rd2 G W g) := fun pins s σ H x y u v Q I rx ry q => h pins s σ H x y u v Q I rx ry q
def fldAugS (c : Nat) (f : Str) (op : D → D → M D) (fo fv : En → M D) : En → M Fl := fun σ => fo σ >>= fun x => fldO c f x >>= fun d => fv σ >>= fun y => op d y >>= fun z => setFld c f x z >>= fun _ => M.pure (Fl.nx σ)
theorem ss_fldaug (c : Nat) {opr : Operator} {op : D → D → M D} (hop : OpD X G W (inplaceOp opr) op) (T : Cls X.K (G.cA c)) (nf : NoAttr X.K (G.cA c) f) (ho : SE X G W o fo) (hv : SE X G W e fe) (hs : attributeBase o f X.env (eval o X.env) = eval o X.env := by rfl) : SS X G W (.AugAssign (.Attribute o f tpos) opr e pos) (fldAugS c f op fo fe) := by
  refine ps_imp (ps_fldaug ho hv (inop_of hop)) fun Dn σ H ⟨σd, S, μ, a, h⟩ => ?_
  refine rdE_bind (k := fun σ x => fldO c f x >>= fun d => fe σ >>= fun y => op d y >>= fun z => setFld c f x z >>= fun _ => M.pure (Fl.nx σ)) a h fun d S1 μ1 H1 v s a1 r p => ?_
  have p := Post.bind (k := fun d1 => fe σd >>= fun y => op d1 y >>= fun z => setFld c f d z >>= fun _ => M.pure (Fl.nx σd)) p
  unfold fldO at p
  cases e1 : getF c S1 d with
  | none => rw [e1] at p; exact p.elim
  | some q =>
    obtain ⟨l, fs⟩ := q
    simp only [e1] at p
    cases e2 : fs.lookup f with
    | none => rw [e2] at p; exact p.elim
    | some dv =>
      rw [e2] at p
      obtain ⟨_, _, _, h2, dx, fs', h3, h4⟩ := getF_ok a1.lnk r e1
      obtain ⟨w, h5, h6⟩ := rvf_lookup h4 e2
      have p := Post.here (W := W) a1.lnk p
      refine ⟨μ1 l, _, dx, fs', w, h2, h3, T, nf, h5, ?_⟩
      refine rdE_bind (k := fun σ y => op dv y >>= fun z => setFld c f d z >>= fun _ => M.pure (Fl.nx σ)) a1 p fun y S2 μ2 H2 vy s2 a2 ry p => ?_
      refine ⟨dv, y, S2, μ2, a2.lnk, s2.rv a1.lnk h6, ry, (Post.bind (k := fun z => setFld c f d z >>= fun _ => M.pure (Fl.nx σd)) p).mono fun z S3 μ3 H3 s3 p w3 rz => ?_⟩
      have p := Post.bind (k := fun _ => M.pure (Fl.nx σd)) p
      unfold setFld at p
      have r3 := s3.rv a2.lnk (s2.rv a1.lnk r)
      cases e3 : getF c S3 d with
      | none => rw [e3] at p; exact p.elim
      | some q =>
        obtain ⟨l', fs2⟩ := q
        simp only [e3] at p
        by_cases hc : fs2.length < 1000 ∧ S3.locked l' = false
        · rw [if_pos hc] at p
          have a3 := a2.step s3
          obtain ⟨ed, hl, _, h2', dx', fs3, h3', h4'⟩ := getF_ok a3.lnk r3 e3
          have ed1 := (getF_ok a1.lnk r e1).1
          have el : l' = l := by rw [ed1] at ed; cases ed; rfl
          subst el
          have hl1 := (getF_ok a1.lnk r e1).2.1
          have m1 : μ3 l' = μ1 l' := (s2.trans s3).grow.agr.2 l' hl1
          have st := stp_fld (f := f) a3.lnk r3 e3 hc.2 rz h3' h4'
          have a4 := a3.step st
          rw [m1] at h3' st
          have q := (Post.here (W := W) a4.lnk (Post.step (stp_fld (f := f) a3.lnk r3 e3 hc.2 rz (by rw [m1]; exact h3') h4') p)) σ a4.en
          rw [m1] at q
          exact ⟨dx', fs3, h3', by rw [← Paired.length h4']; exact hc.1, q⟩
        · rw [if_neg hc] at p; exact p.elim

/-! ### calls of built-ins by values -/
abbrev rdC (G : Gx) (W : XK) (g : List D → M D) : List V → Hp → VK → Prop := fun vs H Q => ∃ ds S μ, Lnk G μ S H ∧ RVs G μ S.n H ds vs ∧ Post G μ S H W (fun d S' μ' H' => ∀ v, RV G μ' S'.n H' d v → Q v H') (g ds S)
def CallD (X : Cx) (G : Gx) (W : XK) (f : Value) (g : List D → M D) : Prop := CallR X f (rdC G W g)
theorem callR_imp {f : Value} {r r' : List V → Hp → VK → Prop} (h : CallR X f r) (m : ∀ xs H Q, r' xs H Q → r xs H Q) : CallR X f r' := fun pins s σ H xs us Q I rx q => h pins s σ H xs us Q I rx (m xs H Q q)
def altC (c : List D → Sto → Bool) (g1 g2 : List D → M D) : List D → M D := fun ds S => if c ds S = true then g1 ds S else g2 ds S
theorem callD_alt {f : Value} {g1 g2 : List D → M D} (c : List D → Sto → Bool) (h1 : CallD X G W f g1) (h2 : CallD X G W f g2) : CallD X G W f (altC c g1 g2) := fun pins s σ H xs us Q I rx ⟨ds, S, μ, L, r, p⟩ => by
  unfold altC at p
  by_cases hc : c ds S = true
  · rw [if_pos hc] at p
    exact h1 pins s σ H xs us Q I rx ⟨ds, S, μ, L, r, p⟩
  · rw [if_neg hc] at p
    exact h2 pins s σ H xs us Q I rx ⟨ds, S, μ, L, r, p⟩
def callE (fr : En → M (List D)) (g : List D → M D) : En → M D := fun σ => fr σ >>= g
variable {es : List Expr} {fr : En → M (List D)} {g : List D → M D} {x : Str} {p : Pos}
theorem rd_callE : ∀ σ H Q, rdE G W (callE fr g) σ H Q → rdA G W fr σ H (fun vs H1 => rdC G W g vs H1 Q) := fun σ H Q ⟨σd, S, μ, a, h⟩ =>
  rdA_bind (k := fun _ ds => g ds) a h fun ds S1 μ1 H1 vs s a1 r p => ⟨ds, S1, μ1, a1.lnk, r, p⟩
theorem se_callB {id : String} (hc : CallD X G W (.builtin id) g) (hm : X.mg x = none) (ha : SA X G W (e :: es) fr) (hg : Gl X x := by rfl) (hv : bootBuiltins x = some (.builtin id) := by decide +kernel) (hn : x ≠ "__name__" := by decide) (hdb : (x == ("__debug__" : Str)) = false := by decide)
    (he : starEach (e :: es) X.env = (false, eval e X.env) :: starEach es X.env := by rfl) (hpl : (backTo pos (starEach es X.env)).any (·.1) = false := by rfl) : SE X G W (.Call (.Name x p) (e :: es) [] pos) (callE fr g) :=
  pe_imp (pe_callB hc hg hm hv ha hn hdb he hpl) rd_callE
theorem se_callTy {T : String} (hc : CallD X G W (.type T) g) (hm : X.mg x = none) (ha : SA X G W (e :: es) fr) (hg : Gl X x := by rfl) (hv : bootBuiltins x = some (.type T) := by decide +kernel) (hn : x ≠ "__name__" := by decide) (hdb : (x == ("__debug__" : Str)) = false := by decide)
    (he : starEach (e :: es) X.env = (false, eval e X.env) :: starEach es X.env := by rfl) (hpl : (backTo pos (starEach es X.env)).any (·.1) = false := by rfl) : SE X G W (.Call (.Name x p) (e :: es) [] pos) (callE fr g) :=
  pe_imp (pe_callTy hc hg hm hv ha hn hdb he hpl) rd_callE
/-! ### defs -/
def spD (G : Gx) (n : Nat) (den : List D → M D) : Sp := fun vs H Q E => ∃ ds S μ, ds.length = n ∧ RVs G μ S.n H ds vs ∧ Lnk G μ S H ∧ Post G μ S H E (fun d S' μ' H' => ∀ v, RV G μ' S'.n H' d v → Q v H') (den ds S)
def arg (n : Nat) (den : List D → M D) : List D → M D := fun ds => if ds.length = n then den ds else M.stk
abbrev FnD (P : Program) (w : World) (mg : Str → Option Value) (base : Heap) (G : Gx) (k : Nat) (f : Addr) (fd : FuncData) (ps : List Str) (den : List D → M D) : Prop := FnOk P w G.K mg base (L2.CX P w) k f fd ps (spD G ps.length den)
abbrev TakesD (X : Cx) (W : XK) : Prop := Takes X (fun cls d _ H => W cls d H)
theorem sp_arg {n : Nat} {den : List D → M D} {μ : Nat → Addr} {S : Sto} {H : Hp} {ds : List D} {vs : List V} {Q : VK} (L : Lnk G μ S H) (r : RVs G μ S.n H ds vs) (p : Post G μ S H W (fun d S' μ' H' => ∀ v, RV G μ' S'.n H' d v → Q v H') (arg n den ds S)) : spD G n den vs H Q W := by
  unfold arg at p
  by_cases h : ds.length = n
  · rw [if_pos h] at p
    exact ⟨ds, S, μ, h, r, L, p⟩
  · rw [if_neg h] at p; exact p.elim
variable {k : Nat} {fa : Addr} {fd : FuncData} {ps : List Str} {den : List D → M D}
theorem se_call (F : FnOk X.prog X.w X.K X.mg X.base (L2.CX X.prog X.w) k fa fd ps (spD G ps.length den)) (hr : Room k X.A) (hm : X.mg x = some (.ref fa)) (hk : PySem.W.keepIn X.K (.ref fa) = true) (hb : Binds X.K fd ps []) (tk : TakesD X W) (ha : SA X G W (e :: es) fr)
    (hg : Gl X x := by rfl) (hdb : (x == ("__debug__" : Str)) = false := by decide) (he : starEach (e :: es) X.env = (false, eval e X.env) :: starEach es X.env := by rfl) (hpl : (backTo pos (starEach es X.env)).any (·.1) = false := by rfl) :
    SE X G W (.Call (.Name x p) (e :: es) [] pos) (callE fr (arg ps.length den)) :=
  pe_imp (pe_call F hr hg hm hk hb .nil (passes_call tk fun _ _ _ _ h => h) ha hdb he hpl) fun σ H Q ⟨σd, S, μ, a, h⟩ =>
    rdA_bind (k := fun _ ds => arg ps.length den ds) a h fun ds S1 μ1 H1 vs s a1 r p => by
      rw [List.append_nil]
      exact sp_arg a1.lnk r p
theorem se_call0 (F : FnOk X.prog X.w X.K X.mg X.base (L2.CX X.prog X.w) k fa fd ps (spD G ps.length den)) (hr : Room k X.A) (hm : X.mg x = some (.ref fa)) (hk : PySem.W.keepIn X.K (.ref fa) = true) (hb : Binds X.K fd ps []) (tk : TakesD X W)
    (hg : Gl X x := by rfl) (hdb : (x == ("__debug__" : Str)) = false := by decide) :
    SE X G W (.Call (.Name x p) [] [] pos) (callE nilA (arg ps.length den)) :=
  pe_imp (pe_call0 F hr hg hm hk hb .nil (passes_call tk fun _ _ _ _ h => h) hdb) fun σ H Q ⟨σd, S, μ, a, h⟩ => sp_arg (vs := []) a.lnk (show RVs G μ S.n H [] [] from rfl) h
/-! ### methods -/
def chkM (c : Nat) (m : Str) (x : D) : M Unit := fun S => match getF c S x with
  | some (_, fs) => if (fs.lookup m).isNone = true then .ok () S else .stk
  | none => .stk
def methE (c : Nat) (m : Str) (fo : En → M D) (fr : En → M (List D)) (g : List D → M D) : En → M D := fun σ => fo σ >>= fun x => chkM c m x >>= fun _ => fr σ >>= fun xs => g (x :: xs)
theorem chkM_ok {m : Str} {μ : Nat → Addr} {S : Sto} {H : Hp} (L : Lnk G μ S H) {d : D} {v : V} (r : RV G μ S.n H d v) {α : Type} {Q : α → Sto → (Nat → Addr) → Hp → Prop} {kk : M α} (p : Post G μ S H W Q ((chkM c m d >>= fun _ => kk) S)) :
    ∃ a dx fs, v = .ref a ∧ H a = some (.ins (G.cA c) dx fs) ∧ fs.lookup m = none ∧ Post G μ S H W Q (kk S) := by
  have p := Post.bind (k := fun _ => kk) p
  unfold chkM at p
  cases e1 : getF c S d with
  | none => rw [e1] at p; exact p.elim
  | some q =>
    obtain ⟨l, fs⟩ := q
    simp only [e1] at p
    by_cases hc : (fs.lookup m).isNone = true
    · rw [if_pos hc] at p
      obtain ⟨_, _, _, h2, dx, fs', h3, h4⟩ := getF_ok L r e1
      exact ⟨_, dx, fs', h2, h3, rvf_none h4 (by simpa using hc), Post.here (W := W) L p⟩
    · rw [if_neg hc] at p; exact p.elim
variable {m : Str} {apos : Pos}
theorem rd_meth : ∀ σ H Q, rdE G W (methE c m fo fr (arg ps.length den)) σ H Q → tMeth (G.cA c) m (spD G ps.length den) [] W (rdE G W fo) (rdA G W fr) σ H Q := fun σ H Q ⟨σd, S, μ, a, h⟩ => by
  refine rdE_bind (k := fun σ x => chkM c m x >>= fun _ => fr σ >>= fun xs => arg ps.length den (x :: xs)) a h fun d S1 μ1 H1 v s a1 r p => ?_
  obtain ⟨ad, dx, fs, e1, e2, e3, p⟩ := chkM_ok a1.lnk r p
  refine ⟨ad, dx, fs, e1, e2, e3, ?_⟩
  refine rdA_bind (k := fun _ xs => arg ps.length den (d :: xs)) a1 p fun ds S2 μ2 H2 vs s2 a2 rs p => ?_
  rw [List.append_nil]
  exact sp_arg a2.lnk (show RVs G μ2 S2.n H2 (d :: ds) (v :: vs) from ⟨v, vs, rfl, s2.rv a1.lnk r, rs⟩) p
theorem se_meth (c : Nat) (T : Cls X.K (G.cA c)) (hm : Meth X.K (G.cA c) m fa) (F : FnOk X.prog X.w X.K X.mg X.base (L2.CX X.prog X.w) k fa fd ps (spD G ps.length den)) (hr : Room k X.A) (hb : Binds X.K fd ps []) (tk : TakesD X W) (ho : SE X G W o fo) (ha : SA X G W (e :: es) fr) {pl : Sem Bool}
    (he : starEach (e :: es) X.env = (false, eval e X.env) :: starEach es X.env := by rfl) (hpl : (backTo pos (starEach es X.env)).any (·.1) = false := by rfl)
    (ht : eval (.Call (.Attribute o m apos) (e :: es) [] pos) X.env = (do
      let ov ← eval o X.env
      standAt apos.atName
      let (f, first) ← holding [ov] (getMethod ov m pl)
      callWith pos f first (backTo pos (starEach (e :: es) X.env)) (backToKw pos (keywordEach [] X.env))) := by rfl) : SE X G W (.Call (.Attribute o m apos) (e :: es) [] pos) (methE c m fo fr (arg ps.length den)) :=
  pe_imp (pe_meth ho T hm F hr hb .nil (passes_call tk fun _ _ _ _ h => h) ha he hpl ht) rd_meth
theorem se_meth0 (c : Nat) (T : Cls X.K (G.cA c)) (hm : Meth X.K (G.cA c) m fa) (F : FnOk X.prog X.w X.K X.mg X.base (L2.CX X.prog X.w) k fa fd ps (spD G ps.length den)) (hr : Room k X.A) (hb : Binds X.K fd ps []) (tk : TakesD X W) (ho : SE X G W o fo) {pl : Sem Bool}
    (ht : eval (.Call (.Attribute o m apos) [] [] pos) X.env = (do
      let ov ← eval o X.env
      standAt apos.atName
      let (f, first) ← holding [ov] (getMethod ov m pl)
      callWith pos f first (backTo pos (starEach [] X.env)) (backToKw pos (keywordEach [] X.env))) := by rfl) : SE X G W (.Call (.Attribute o m apos) [] [] pos) (methE c m fo nilA (arg ps.length den)) :=
  pe_imp (pe_meth0 ho T hm F hr hb .nil (passes_call tk fun _ _ _ _ h => h) ht) fun σ H Q ⟨σd, S, μ, a, h⟩ => by
    refine rdE_bind (k := fun σ x => chkM c m x >>= fun _ => nilA σ >>= fun xs => arg ps.length den (x :: xs)) a h fun d S1 μ1 H1 v s a1 r p => ?_
    obtain ⟨ad, dx, fs, e1, e2, e3, p⟩ := chkM_ok a1.lnk r p
    exact ⟨ad, dx, fs, e1, e2, e3, sp_arg a1.lnk (show RVs G μ1 S1.n H1 [d] [v] from ⟨v, [], rfl, r, rfl⟩) p⟩
/-! ### classes -/
def makeO (c : Nat) (g : List D → M D) : List D → M D := fun xs S => match g (.ref S.n :: xs) (S.push (.ins c [])) with
  | .ok .non S' => .ok (.ref S.n) S'
  | .ok _ _ => .stk
  | .exc c S' => .exc c S'
  | .stk => .stk
theorem make_ok {μ : Nat → Addr} {S : Sto} {H : Hp} (L : Lnk G μ S H) {xs : List D} {vs : List V} (r : RVs G μ S.n H xs vs) {Q : VK} (p : Post G μ S H W (fun d S' μ' H' => ∀ v, RV G μ' S'.n H' d v → Q v H') (makeO c (arg ps.length den) xs S)) {y dx : Addr} (h1 : H y = none) (h2 : H dx = none) (h3 : dx ≠ y) :
    spD G ps.length den (.ref y :: vs) (upd (upd H dx (.own y)) y (.ins (G.cA c) dx [])) (fun v H2 => v = .non ∧ Q (.ref y) H2) W := by
  have s1 : Stp G μ S H μ S (upd H dx (.own y)) := Stp.new L h2
  have hy : upd H dx (.own y) y = none := by rw [upd_ne (Ne.symm h3)]; exact h1
  have s2 : Stp G μ S (upd H dx (.own y)) (putMu μ S.n y) (S.push (.ins c [])) (upd (upd H dx (.own y)) y (.ins (G.cA c) dx [])) := Stp.own s1.lnk hy ⟨dx, [], upd_same, .nil⟩
  have s12 := s1.trans s2
  unfold makeO at p
  refine sp_arg s12.lnk (show RVs G _ _ _ (.ref S.n :: xs) (.ref y :: vs) from ⟨.ref y, vs, rfl, rv_own, s12.rvs L r⟩) ?_
  cases e : arg ps.length den (.ref S.n :: xs) (S.push (.ins c [])) with
  | stk => rw [e] at p; exact p.elim
  | exc c' S' =>
    rw [e] at p
    exact Post.later (Q := fun d S' μ' H' => ∀ v, RV G μ' S'.n H' d v → (v = .non ∧ Q (.ref y) H')) s12 (show Post G μ S H W _ (Fd.R.exc c' S') from p)
  | ok d S' =>
    rw [e] at p
    cases d with
    | non =>
      intro μ' H' s v rv
      refine ⟨rv, p μ' H' (s12.trans s) _ ⟨Nat.lt_of_lt_of_le (by rw [Sto.push_n]; exact Nat.lt_succ_self _) s.grow.agr.1, ?_⟩⟩
      have z := s.grow.agr.2 S.n (by rw [Sto.push_n]; exact Nat.lt_succ_self _)
      rw [z, putMu_same]
    | _ => exact p.elim
theorem se_make (c : Nat) (Mk' : Mk X.K (G.cA c) fa) (F : FnOk X.prog X.w X.K X.mg X.base (L2.CX X.prog X.w) k fa fd ps (spD G ps.length den)) (hr : Room (k + 1) X.A) (hm : X.mg x = some (.ref (G.cA c))) (hb : Binds X.K fd ps []) (tk : TakesD X W) (ha : SA X G W (e :: es) fr)
    (hg : Gl X x := by rfl) (hdb : (x == ("__debug__" : Str)) = false := by decide) (he : starEach (e :: es) X.env = (false, eval e X.env) :: starEach es X.env := by rfl) (hpl : (backTo pos (starEach es X.env)).any (·.1) = false := by rfl) :
    SE X G W (.Call (.Name x p) (e :: es) [] pos) (callE fr (makeO c (arg ps.length den))) :=
  pe_imp (pe_make Mk' F hr hg hm hb .nil (passes_call tk fun _ _ _ _ h => h) ha hdb he hpl) fun σ H Q ⟨σd, S, μ, a, h⟩ =>
    rdA_bind (k := fun _ ds => makeO c (arg ps.length den) ds) a h fun ds S1 μ1 H1 vs s a1 r p y dx h1 h2 h3 => by
      rw [List.append_nil]
      exact make_ok a1.lnk r p h1 h2 h3
theorem se_make0 (c : Nat) (Mk' : Mk X.K (G.cA c) fa) (F : FnOk X.prog X.w X.K X.mg X.base (L2.CX X.prog X.w) k fa fd ps (spD G ps.length den)) (hr : Room (k + 1) X.A) (hm : X.mg x = some (.ref (G.cA c))) (hb : Binds X.K fd ps []) (tk : TakesD X W)
    (hg : Gl X x := by rfl) (hdb : (x == ("__debug__" : Str)) = false := by decide) :
    SE X G W (.Call (.Name x p) [] [] pos) (callE nilA (makeO c (arg ps.length den))) :=
  pe_imp (pe_make0 Mk' F hr hg hm hb .nil (passes_call tk fun _ _ _ _ h => h) hdb) fun σ H Q ⟨σd, S, μ, a, h⟩ => fun y dx h1 h2 h3 => make_ok a.lnk (show RVs G μ S.n H [] [] from rfl) h h1 h2 h3
/-! ### a def's body -/
def startD (n : Nat) (ds : List D) : En := ds.map some ++ List.replicate (n - ds.length) none
def bodyD (n : Nat) (fb : En → M Fl) : List D → M D := fun ds => fb (startD n ds) >>= fun (fl : Fl) => match fl with
  | .nx _ => M.pure .non
  | .rt d => M.pure d
  | _ => M.stk
theorem ren_start {μ : Nat → Addr} {n : Nat} {H : Hp} {N : List Str} {ds : List D} {vs : List V} (r : RVs G μ n H ds vs) : REn G μ n H (startD N.length ds) (L2.start N vs) := by
  unfold startD L2.start
  rw [r.length]
  refine ⟨by rw [List.length_append, List.length_append, List.length_map, List.length_map, r.length, List.length_replicate, List.length_replicate]; exact Nat.le_refl _, fun i d e => ?_⟩
  by_cases hi : i < ds.length
  · rw [List.getElem?_append_left (by simpa using hi), List.getElem?_map] at e
    cases e1 : ds[i]? with
    | none => rw [e1] at e; cases e
    | some d' =>
      rw [e1] at e
      cases e
      obtain ⟨v, h1, h2⟩ := rvs_get r e1
      refine ⟨v, ?_, h2⟩
      rw [List.getElem?_append_left (by rw [List.length_map, ← r.length]; exact hi), List.getElem?_map, h1]
      rfl
  · rw [List.getElem?_append_right (by simpa using hi), List.getElem?_replicate] at e
    split at e <;> cases e
/-- THE RULE of a def: by its body -/
theorem fnD_ok {P : Program} {w : World} {mg : Str → Option Value} {base : Heap} {x qual : Str} {st : Stmt} {f : Addr} {fd : FuncData} {N ps : List Str} {k : Nat} {fb : En → M Fl} (F : Fun G.K x qual st f fd) (S : FnScope N ps (defScope st))
    (hbody : ∀ (cdv : Value) (A : Around) (outer : List Env) (s : Shared) (H : Hp) (E : XK), Room k (A.deeper (envOfC qual (defScope st) s.heap.objs.size f cdv)) → TakesD (cxOf (L2.CX P w) P w G.K mg base N qual (defScope st) f cdv A outer s H E) E →
      SSs (cxOf (L2.CX P w) P w G.K mg base N qual (defScope st) f cdv A outer s H E) G E (defBody st) fb) : FnD P w mg base G (k + 1) f fd ps (bodyD N.length fb) := by
  refine F.okX S (fun vs H Q E ⟨ds, S, μ, h1, h2, _⟩ => h2.length.symm.trans h1) fun cdv A outer s H vs Q E hr ⟨ds, S', μ, h1, r, L, p⟩ => ?_
  have tk : TakesD (cxOf (L2.CX P w) P w G.K mg base N qual (defScope st) f cdv A outer s H E) E := takes_of rfl rfl rfl rfl
  refine ⟨_, hbody cdv A outer s H E hr tk, startD N.length ds, S', μ, ⟨ren_start r, L⟩, ?_⟩
  refine (Post.bind (k := fun (fl : Fl) => match fl with
    | .nx _ => M.pure .non
    | .rt d => M.pure d
    | _ => M.stk) p).mono fun fl S1 μ1 H1 s1 q => ?_
  cases fl with
  | nx σd => exact fun σ en => (Post.here (W := E) s1.lnk q) _ rfl
  | rt d => exact fun v rv => (Post.here (W := E) s1.lnk q) v rv
  | bk σd => exact q.elim
  | ct σd => exact q.elim
end
end Fd

set_option Elab.async false
set_option linter.all false
set_option maxRecDepth 100000
set_option maxHeartbeats 1000000
namespace Fd
open PySem PySem.Spec PyProof.Rows L2
section
variable {X : Cx} {G : Gx} {W : XK} {e o i : Expr} {fe fo fi : En → M D} {pos pos' tpos : Pos}
/-! ### raise -/
theorem ss_raise (c : Nat) {x m : Str} {j : Nat} {p p2 : Pos} {bmB : List Value} {B newId initId : String} (hc : X.calm = true) (tk : TakesD X W) (F : ExcBaseFacts B newId initId bmB) (q : PySem.W.excIn X.K (G.cA c) bmB newId = true) (gC : X.mg x = some (.ref (G.cA c))) (kC : PySem.W.keepIn X.K (.ref (G.cA c)) = true) (r : Raises X (.ref (G.cA c))) (hg : Gl X x := by rfl)
    (hdb : (x == ("__debug__" : Str)) = false := by decide) : SS X G W (.Raise (some (.Call (.Name x p) [.Constant (.str m) j p2] [] pos)) none pos') (fun _ => M.exc c) :=
  ps_imp (L2.ps_raise hc tk (L2.pmk_own F q gC kC r hg hdb)) fun Dn σ H ⟨σd, S, μ, a, h⟩ => h μ H (.refl a.lnk)
/-! ### o[i] = v -/
def setO (o i v : D) : M Unit := fun S => match o with
  | .ref l => if S.locked l = true then .stk else match S.objs[l]? with
    | some (.lst ds) => (match i with
      | .int k => (match ixN ds.length k with
        | some j => .ok () (S.put l (.lst (ds.set j v)))
        | none => .stk)
      | _ => .stk)
    | some (.dct t kvs) => (match keyD t i with
      | some k => if kvs.length < sizeLine then .ok () (S.put l (.dct t (put kvs k v))) else .stk
      | none => .stk)
    | _ => .stk
  | _ => .stk
theorem RVs.set {μ : Nat → Addr} {n : Nat} {H : Hp} {d : D} {v : V} (rd : RV G μ n H d v) : ∀ {ds : List D} {vs : List V} (j : Nat), RVs G μ n H ds vs → RVs G μ n H (ds.set j d) (vs.set j v)
  | [], _, _, h => by
    have h : _ = _ := h
    subst h; exact rfl
  | x :: xs, _, 0, ⟨w, r, e, h1, h2⟩ => by subst e; exact ⟨v, r, rfl, rd, h2⟩
  | x :: xs, _, j + 1, ⟨w, r, e, h1, h2⟩ => by subst e; exact ⟨w, _, rfl, h1, RVs.set rd j h2⟩
theorem any_map {κ : Type} [DecidableEq κ] {f : κ → DK} (inj : ∀ a b, f a = f b → a = b) (l : List (κ × V)) (k : κ) : ((l.map fun p => (f p.1, p.2)).any fun p => decide (p.1 = f k)) = l.any fun p => decide (p.1 = k) := by
  induction l with
  | nil => rfl
  | cons p l ih =>
    rw [List.map_cons, List.any_cons, List.any_cons, ih]
    have : decide (f p.1 = f k) = decide (p.1 = k) := decide_eq_decide.mpr ⟨inj _ _, fun e => by rw [e]⟩
    rw [show decide ((f p.1, p.2).1 = f k) = decide (p.1 = k) from this]
theorem rvk_any {μ : Nat → Addr} {n : Nat} {H : Hp} (k : DK) {kvs : List (DK × D)} {vs : List (DK × V)} (r : RVk G μ n H kvs vs) : (kvs.any fun p => decide (p.1 = k)) = vs.any fun p => decide (p.1 = k) := by
  have q := r.paired
  clear r
  induction q with
  | nil => rfl
  | cons h t ih => rw [List.any_cons, List.any_cons, ih, h.1]
theorem paired_append {α β : Type} {F : α → β → Prop} : ∀ {a : List α} {b : List β} {c : List α} {d : List β}, Paired F a b → Paired F c d → Paired F (a ++ c) (b ++ d)
  | _, _, _, _, .nil, h => h
  | _, _, _, _, .cons h t, h' => .cons h (paired_append t h')
theorem paired_map2 {α β α' β' : Type} {F : α → β → Prop} {F' : α' → β' → Prop} {f : α → α'} {g : β → β'} (h : ∀ a b, F a b → F' (f a) (g b)) : ∀ {a : List α} {b : List β}, Paired F a b → Paired F' (a.map f) (b.map g)
  | _, _, .nil => .nil
  | _, _, .cons q t => .cons (h _ _ q) (paired_map2 h t)
theorem rvk_put {μ : Nat → Addr} {n : Nat} {H : Hp} {κ : Type} [DecidableEq κ] {f : κ → DK} (inj : ∀ a b, f a = f b → a = b) {kvs : List (DK × D)} {l : List (κ × V)} {k : κ} {d : D} {v : V} (r : RVk G μ n H kvs (l.map fun p => (f p.1, p.2))) (rd : RV G μ n H d v) :
    RVk G μ n H (put kvs (f k) d) ((putK l k v).map fun p => (f p.1, p.2)) := by
  unfold put putK
  rw [rvk_any (f k) r, any_map inj]
  by_cases h : (l.any fun p => decide (p.1 = k)) = true
  · rw [if_pos h, if_pos h, List.map_map]
    have q := r.paired
    have e : (l.map ((fun p : κ × V => (f p.1, p.2)) ∘ fun kv => if kv.1 = k then (kv.1, v) else kv)) = (l.map fun p => (f p.1, p.2)).map fun p => if p.1 = f k then (p.1, v) else p := by
      rw [List.map_map]
      refine List.map_congr_left fun p _ => ?_
      show (f (if p.1 = k then (p.1, v) else p).1, (if p.1 = k then (p.1, v) else p).2) = if f p.1 = f k then (f p.1, v) else (f p.1, p.2)
      by_cases hk : p.1 = k
      · rw [if_pos hk, if_pos (by rw [hk])]
      · rw [if_neg hk, if_neg fun z => hk (inj _ _ z)]
    rw [e]
    refine .of (paired_map2 (fun a b z => ?_) q)
    have z1 : a.1 = b.1 := z.1
    by_cases hk : a.1 = f k
    · rw [if_pos hk, if_pos (by rw [← z1]; exact hk)]
      exact ⟨z1, rd⟩
    · rw [if_neg hk, if_neg (by rw [← z1]; exact hk)]
      exact z
  · rw [if_neg h, if_neg h, List.map_append]
    exact .of (paired_append r.paired (.cons ⟨rfl, rd⟩ .nil))
theorem rvk_mono {μ μ' : Nat → Addr} {n n' : Nat} {H H' : Hp} (m : ∀ d v, RV G μ n H d v → RV G μ' n' H' d v) {kvs : List (DK × D)} {vs : List (DK × V)} (r : RVk G μ n H kvs vs) : RVk G μ' n' H' kvs vs := .of (Paired.mapP r.paired fun p q z => ⟨z.1, m _ _ z.2⟩)
def rSet2 : TSet := fun o i v H Q => rSetL o i v H Q ∨ rSetD o i v H Q
theorem set_2 (hu : X.A.units + 1 < cLine) : PSet X rSet2 := fun pins s σ H o i v ov iv u Q I ro ri rv h => h.elim (set_list pins s σ H o i v ov iv u Q I ro ri rv) (set_dict hu pins s σ H o i v ov iv u Q I ro ri rv)
theorem setO_ok {μ : Nat → Addr} {S : Sto} {H : Hp} (L : Lnk G μ S H) {α : Type} {Q : α → Sto → (Nat → Addr) → Hp → Prop} {kk : M α} {o i v : D} {ov iv u : V} (ro : RV G μ S.n H o ov) (ri : RV G μ S.n H i iv) (rv : RV G μ S.n H v u) (p : Post G μ S H W Q ((setO o i v >>= fun _ => kk) S)) {R : Hp → Prop}
    (hR : ∀ S' H', Stp G μ S H μ S' H' → Post G μ S' H' W Q (kk S') → R H') : rSet2 ov iv u H R := by
  have p := Post.bind (k := fun _ => kk) p
  cases o with
  | ref l =>
    obtain ⟨hl, rfl⟩ := ro
    unfold setO at p
    by_cases hk : S.locked l = true
    · simp only [hk, if_true] at p; exact p.elim
    · have hk' : S.locked l = false := by simpa using hk
      simp only [hk, if_false] at p
      cases eo : S.objs[l]? with
      | none => simp only [eo] at p; exact p.elim
      | some ob =>
        have lo := L.ob l ob eo
        cases ob with
        | ins c fs => simp only [eo] at p; exact p.elim
        | lst ds =>
          simp only [eo] at p
          cases i with
          | int k =>
            have ri : iv = .int k := ri
            subst ri
            cases ej : ixN ds.length k with
            | none => simp only [ej] at p; exact p.elim
            | some j =>
              simp only [ej] at p
              obtain ⟨vs, h1, h2⟩ := lo
              rw [hk'] at h1
              have h1 : H (μ l) = some (.lst vs) := h1
              have g := grow_put (u := .lst (vs.set j u)) L hl h1 (fun _ _ e => by cases e) (fun _ e => by cases e)
              have st : Stp G μ S H μ (S.put l (.lst (ds.set j v))) (upd H (μ l) (.lst (vs.set j u))) := Stp.put L hl hk' h1 (fun _ _ e => by cases e) (fun _ e => by cases e) (fun _ e => by cases e) (fun _ e => by cases e) ⟨_, upd_same, (RVs.set rv j h2).mono g L.tf⟩
              exact .inl ⟨μ l, vs, k, j, rfl, rfl, h1, by rw [← h2.length]; exact ej, hR _ _ st (Post.step st p)⟩
          | _ => exact p.elim
        | dct t kvs =>
          simp only [eo] at p
          cases ek : keyD t i with
          | none => simp only [ek] at p; exact p.elim
          | some k =>
            simp only [ek] at p
            by_cases hz : kvs.length < sizeLine
            · rw [if_pos hz] at p
              have ka := keyD_ok ri ek
              obtain ⟨vs, ho, h1, h2, h3⟩ := lo
              rw [hk'] at h1
              have h1 : H (μ l) = some ho := h1
              cases ka with
              | k x =>
                cases h2 with
                | k ls =>
                  have g := grow_put (u := .dK (putK ls x u)) L hl h1 (fun _ _ e => by cases e) (fun _ e => by cases e)
                  have st : Stp G μ S H μ (S.put l (.dct false (put kvs (.k x) v))) (upd H (μ l) (.dK (putK ls x u))) := Stp.put L hl hk' h1 (fun _ _ e => by cases e) (fun _ e => by cases e) (fun _ e => by cases e) (fun _ e => by cases e)
                    ⟨_, _, upd_same, .k _, RVk.mono g L.tf _ _ (rvk_put (fun _ _ => dk_inj) h3 rv)⟩
                  exact .inr ⟨μ l, _, rfl, DPut.k h1 (by have := h3.length; rw [List.length_map] at this; omega), hR _ _ st (Post.step st p)⟩
              | t xs hb =>
                cases h2 with
                | t ls =>
                  have g := grow_put (u := .dT (putK ls xs u)) L hl h1 (fun _ _ e => by cases e) (fun _ e => by cases e)
                  have st : Stp G μ S H μ (S.put l (.dct true (put kvs (.t xs) v))) (upd H (μ l) (.dT (putK ls xs u))) := Stp.put L hl hk' h1 (fun _ _ e => by cases e) (fun _ e => by cases e) (fun _ e => by cases e) (fun _ e => by cases e)
                    ⟨_, _, upd_same, .t _, RVk.mono g L.tf _ _ (rvk_put (fun _ _ => dt_inj) h3 rv)⟩
                  exact .inr ⟨μ l, _, rfl, DPut.t h1 hb (by have := h3.length; rw [List.length_map] at this; omega), hR _ _ st (Post.step st p)⟩
            · rw [if_neg hz] at p; exact p.elim
  | _ => exact p.elim
def subG (fo fi : En → M D) : D → En → M En := fun d σ => fo σ >>= fun o => fi σ >>= fun i => setO o i d >>= fun _ => M.pure σ
theorem sg_sub (hu : X.A.units + 1 < cLine) (ho : SE X G W o fo) (hi : SE X G W i fi)
    (ha : ∀ v, assign (.Subscript o i pos) X.env v = (do
      let ov ← holding [v] (eval o X.env)
      let iv ← holding [v, ov] (eval i X.env)
      standAt pos
      holding [v, ov, iv] (setItem ov iv v)
      release [v, ov, iv] []) := by intro _; rfl) : SG X G W (.Subscript o i pos) (subG fo fi) :=
  pg_imp (pg_sub ho hi (set_2 hu) ha) fun v σ H Q ⟨d, σd, S, μ, a, r, h⟩ => by
    refine rdE_bind (k := fun σ x => fi σ >>= fun i => setO x i d >>= fun _ => M.pure σ) a h fun x S1 μ1 H1 xv s a1 rx p => ?_
    refine rdE_bind (k := fun σ i => setO x i d >>= fun _ => M.pure σ) a1 p fun y S2 μ2 H2 yv s2 a2 ry p => ?_
    refine setO_ok a2.lnk (s2.rv a1.lnk rx) ry (s2.rv a1.lnk (s.rv a.lnk r)) p fun S3 H3 st p => ?_
    exact (Post.here (W := W) (a2.step st).lnk p) σ (a2.step st).en
/-- o[i] op= e, o a dict -/
theorem get_dict (hu : X.A.units + 1 < cLine) : PGet X (fun o i H Q => ∃ a v, o = .ref a ∧ DGet H a i (some v) ∧ Q v H) := by
  intro pins s σ H o i ov iv Q I ro ri h
  obtain ⟨a, v, eo, g, q⟩ := h
  subst eo
  cases (show ov = Value.ref a from ro)
  exact d_getItem hu I g ri fun w' s3 I3 rw' => ⟨v, H, I3, rw', q⟩
def augSubS (op : D → D → M D) (fo fi fe : En → M D) : En → M Fl := fun σ => fo σ >>= fun o => fi σ >>= fun i => dgetO o i >>= fun x => fe σ >>= fun y => op x y >>= fun z => setO o i z >>= fun _ => M.pure (Fl.nx σ)
theorem dgetO_ok {μ : Nat → Addr} {S : Sto} {H : Hp} (L : Lnk G μ S H) {α : Type} {Q : α → Sto → (Nat → Addr) → Hp → Prop} {kk : D → M α} {d e : D} {x y : V} (r1 : RV G μ S.n H d x) (r2 : RV G μ S.n H e y) (p : Post G μ S H W Q ((dgetO d e >>= kk) S)) :
    ∃ a v dv, x = .ref a ∧ DGet H a y (some v) ∧ RV G μ S.n H dv v ∧ Post G μ S H W Q (kk dv S) := by
  have p := Post.bind p
  unfold dgetO at p
  cases e1 : dctD S d with
  | none => rw [e1] at p; exact p.elim
  | some q =>
    obtain ⟨t, kvs⟩ := q
    rw [e1] at p
    cases e2 : keyD t e with
    | none => simp only [e2] at p; exact p.elim
    | some k =>
      obtain ⟨aa, o, h1, h2, h3⟩ := dget_ok L r1 e1 (keyD_ok r2 e2)
      cases e3 : val kvs k with
      | none => simp only [e2, Option.bind_some, e3] at p; exact p.elim
      | some dv =>
        simp only [e2, Option.bind_some, e3] at p
        rw [e3] at h3
        cases o with
        | none => exact h3.elim
        | some v => exact ⟨aa, v, dv, h1, h2, h3, Post.here L p⟩
theorem ss_augSub {opr : Operator} {op : D → D → M D} (hu : X.A.units + 1 < cLine) (hop : OpD X G W (inplaceOp opr) op) (ho : SE X G W o fo) (hi : SE X G W i fi) (he : SE X G W e fe)
    (ha : ∀ ov iv new, augStore i ov iv new = (do holding [new, ov, iv] (setItem ov iv new); release [new, ov, iv] []; pure .next) := by intros; rfl) : SS X G W (.AugAssign (.Subscript o i tpos) opr e pos) (augSubS op fo fi fe) :=
  ps_imp (ps_augS ho hi (get_dict hu) he (show PIp X opr (rd2 G W op) from fun pins s σ H x y v u Q I rx ry q => hop pins s σ H x y v u Q I rx ry q) (set_2 hu) ha) fun Dn σ H ⟨σd, S, μ, a, h⟩ => by
    refine rdE_bind (k := fun σ o => fi σ >>= fun i => dgetO o i >>= fun x => fe σ >>= fun y => op x y >>= fun z => setO o i z >>= fun _ => M.pure (Fl.nx σ)) a h fun od S1 μ1 H1 ov s1 a1 ro p => ?_
    refine rdE_bind (k := fun σ i => dgetO od i >>= fun x => fe σ >>= fun y => op x y >>= fun z => setO od i z >>= fun _ => M.pure (Fl.nx σ)) a1 p fun idd S2 μ2 H2 iv s2 a2 ri p => ?_
    obtain ⟨aa, v, dv, e1, g, rdv, p⟩ := dgetO_ok a2.lnk (s2.rv a1.lnk ro) ri p
    refine ⟨aa, v, e1, g, ?_⟩
    refine rdE_bind (k := fun σ y => op dv y >>= fun z => setO od idd z >>= fun _ => M.pure (Fl.nx σ)) a2 p fun y S3 μ3 H3 vy s3 a3 ry p => ?_
    refine ⟨dv, y, S3, μ3, a3.lnk, s3.rv a2.lnk rdv, ry, (Post.bind (k := fun z => setO od idd z >>= fun _ => M.pure (Fl.nx σd)) p).mono fun z S4 μ4 H4 s4 p w rz => ?_⟩
    have a4 := a3.step s4
    have s34 := s3.trans s4
    refine setO_ok a4.lnk (s34.rv a2.lnk (s2.rv a1.lnk ro)) (s34.rv a2.lnk ri) rz p fun S5 H5 st p => ?_
    exact (Post.here (W := W) (a4.step st).lnk p) σ (a4.step st).en
/-- name op= e -/
def augS (i : Nat) (op : D → D → M D) (fe : En → M D) : En → M Fl := fun σ => getV i σ >>= fun x => fe σ >>= fun y => op x y >>= fun z => M.pure (Fl.nx (σ.set i (some z)))
theorem ss_aug (i : Nat) {opr : Operator} {op : D → D → M D} {x : Str} {pos' : Pos} (hN : X.N.Nodup) (hop : OpD X G W (inplaceOp opr) op) (he : SE X G W e fe) (hi : X.N[i]? = some x := by rfl) (hx : Loc X.env.scope x := by first | exact Or.inl rfl | exact Or.inr rfl) (hf : X.fn x = true ∨ X.env.scope.names.lookup x = some .local := by first | exact .inl rfl | exact .inr rfl | assumption) :
    SS X G W (.AugAssign (.Name x pos') opr e pos) (augS i op fe) :=
  ps_imp (ps_aug hN hi hx he (show PIp X opr (rd2 G W op) from fun pins s σ H x y v u Q I rx ry q => hop pins s σ H x y v u Q I rx ry q) hf) fun Dn σ H ⟨σd, S, μ, a, h⟩ => by
    have p := Post.bind (k := fun x => fe σd >>= fun y => op x y >>= fun z => M.pure (Fl.nx (σd.set i (some z)))) h
    unfold getV at p
    cases e1 : σd[i]? with
    | none => rw [e1] at p; exact p.elim
    | some od =>
      rw [e1] at p
      cases od with
      | none => exact p.elim
      | some d =>
        have p := Post.here (W := W) a.lnk p
        obtain ⟨v, h1, rv⟩ := a.en.at_ i d e1
        refine ⟨v, h1, ?_⟩
        refine rdE_bind (k := fun σ y => op d y >>= fun z => M.pure (Fl.nx (σ.set i (some z)))) a p fun y S1 μ1 H1 vy s1 a1 ry p => ?_
        refine ⟨d, y, S1, μ1, a1.lnk, s1.rv a.lnk rv, ry, (Post.bind (k := fun z => M.pure (Fl.nx (σd.set i (some z)))) p).mono fun z S2 μ2 H2 s2 p w rz => ?_⟩
        exact (Post.here (W := W) s2.lnk p) _ ((a1.step s2).en.set rz)
/-- xs += ys: lists; xs is of the store, ys any -/
def extL : D → D → M D := fun x y S => match x with
  | .ref l => if S.locked l = true then .stk else match S.objs[l]? with
    | some (.lst xs) => (match seqU S y with
      | some ys => if xs.length + ys.length ≤ sizeLine then .ok (.ref l) (S.put l (.lst (xs ++ ys))) else .stk
      | none => .stk)
    | _ => .stk
  | _ => .stk
theorem od_extL : OpD X G W (inplaceOp .Add) extL := opR_imp iop_ext fun x y H Q ⟨d, e, S, μ, L, r1, r2, p⟩ => by
  unfold extL at p
  cases d with
  | ref l =>
    obtain ⟨hl, rfl⟩ := r1
    by_cases hk : S.locked l = true
    · simp only [hk, if_true] at p; exact p.elim
    · have hk' : S.locked l = false := by simpa using hk
      simp only [hk, if_false] at p
      cases eo : S.objs[l]? with
      | none => simp only [eo] at p; exact p.elim
      | some ob =>
        have lo := L.ob l ob eo
        cases ob with
        | ins c fs => simp only [eo] at p; exact p.elim
        | dct c fs => simp only [eo] at p; exact p.elim
        | lst xs =>
          simp only [eo] at p
          cases e2 : seqU S e with
          | none => simp only [e2] at p; exact p.elim
          | some ys =>
            simp only [e2] at p
            by_cases hz : xs.length + ys.length ≤ sizeLine
            · rw [if_pos hz] at p
              obtain ⟨vs, h1, h2⟩ := lo
              rw [hk'] at h1
              have h1 : H (μ l) = some (.lst vs) := h1
              obtain ⟨b, us, rfl, h3, h4⟩ := seqU_ok L r2 e2
              have g := grow_put (u := .lst (vs ++ us)) L hl h1 (fun _ _ e => by cases e) (fun _ e => by cases e)
              have st : Stp G μ S H μ (S.put l (.lst (xs ++ ys))) (upd H (μ l) (.lst (vs ++ us))) := Stp.put L hl hk' h1 (fun _ _ e => by cases e) (fun _ e => by cases e) (fun _ e => by cases e) (fun _ e => by cases e) ⟨_, upd_same, (h2.append h4).mono g L.tf⟩
              exact ⟨μ l, b, vs, us, rfl, rfl, h1, h3, by rw [← h2.length, ← h4.length]; exact hz, Post.step st p _ ⟨by rw [Sto.put_n]; exact hl, rfl⟩⟩
            · rw [if_neg hz] at p; exact p.elim
  | _ => exact p.elim
/-! ### a, b = x, y with plain local names -/
def parS (i j : Nat) (fr : En → M (List D)) : En → M Fl := fun σ => fr σ >>= fun ds => match ds with
  | [a, b] => M.pure (Fl.nx ((σ.set i (some a)).set j (some b)))
  | _ => M.stk
theorem ss_par (i j : Nat) {x y : Str} {a b : Expr} {fr : En → M (List D)} {px py pt : Pos} {kt k2 pt2} (hc : X.calm = true) (hN : X.N.Nodup) (ha : SA X G W [a, b] fr) (hi : X.N[i]? = some x := by rfl) (hj : X.N[j]? = some y := by rfl) (hij : i ≠ j := by decide)
    (hx : X.env.scope.names.lookup x = some .local := by rfl) (hy : X.env.scope.names.lookup y = some .local := by rfl)
    (hw : swappedStores [.Tuple [.Name x px, .Name y py] kt pt] (.Tuple [a, b] k2 pt2) X.env = pure (some [x, y]) := by rfl)
    (hs : swapsWithSole [.Tuple [.Name x px, .Name y py] kt pt] (.Tuple [a, b] k2 pt2) pos.line X.env = pure false := by rfl) :
    SS X G W (.Assign [.Tuple [.Name x px, .Name y py] kt pt] (.Tuple [a, b] k2 pt2) pos) (parS i j fr) :=
  ps_imp (ps_par hc hN hi hj hij hx hy ha hw hs) fun Dn σ H ⟨σd, S, μ, a, h⟩ => by
    refine rdA_bind (k := fun σ ds => match ds with | [a, b] => M.pure (Fl.nx ((σ.set i (some a)).set j (some b))) | _ => M.stk) a h fun ds S1 μ1 H1 vs s a1 r p => ?_
    match ds, r, p with
    | [d1, d2], ⟨v1, r1, e1, q1, v2, r2, e2, q2, e3⟩, p =>
      subst e1 e2
      have e3 : r2 = [] := e3
      subst e3
      exact ⟨v1, v2, rfl, (Post.here (W := W) a1.lnk p) _ ((a1.en.set q1).set q2)⟩
    | [], _, p => exact p.elim
    | [_], _, p => exact p.elim
    | _ :: _ :: _ :: _, _, p => exact p.elim
def par3S (i j l : Nat) (fr : En → M (List D)) : En → M Fl := fun σ => fr σ >>= fun ds => match ds with
  | [a, b, c] => M.pure (Fl.nx (((σ.set i (some a)).set j (some b)).set l (some c)))
  | _ => M.stk
theorem ss_par3 (i j l : Nat) {x y z : Str} {a b c : Expr} {fr : En → M (List D)} {px py pz pt : Pos} {kt k2 pt2} (hc : X.calm = true) (hN : X.N.Nodup) (ha : SA X G W [a, b, c] fr) (hi : X.N[i]? = some x := by rfl) (hj : X.N[j]? = some y := by rfl) (hl : X.N[l]? = some z := by rfl) (hij : i ≠ j := by decide) (hil : i ≠ l := by decide) (hjl : j ≠ l := by decide)
    (hx : X.env.scope.names.lookup x = some .local := by rfl) (hy : X.env.scope.names.lookup y = some .local := by rfl) (hz : X.env.scope.names.lookup z = some .local := by rfl)
    (hw : swappedStores [.Tuple [.Name x px, .Name y py, .Name z pz] kt pt] (.Tuple [a, b, c] k2 pt2) X.env = pure (some [x, y, z]) := by rfl)
    (hs : swapsWithSole [.Tuple [.Name x px, .Name y py, .Name z pz] kt pt] (.Tuple [a, b, c] k2 pt2) pos.line X.env = pure false := by rfl) :
    SS X G W (.Assign [.Tuple [.Name x px, .Name y py, .Name z pz] kt pt] (.Tuple [a, b, c] k2 pt2) pos) (par3S i j l fr) :=
  ps_imp (ps_par3 hc hN hi hj hl hij hil hjl hx hy hz ha hw hs) fun Dn σ H ⟨σd, S, μ, a, h⟩ => by
    refine rdA_bind (k := fun σ ds => match ds with | [a, b, c] => M.pure (Fl.nx (((σ.set i (some a)).set j (some b)).set l (some c))) | _ => M.stk) a h fun ds S1 μ1 H1 vs s a1 r p => ?_
    match ds, r, p with
    | [d1, d2, d3], ⟨v1, r1, e1, q1, v2, r2, e2, q2, v3, r3, e3, q3, e4⟩, p =>
      subst e1 e2 e3
      have e4 : r3 = [] := e4
      subst e4
      exact ⟨v1, v2, v3, rfl, (Post.here (W := W) a1.lnk p) _ (((a1.en.set q1).set q2).set q3)⟩
    | [], _, p => exact p.elim
    | [_], _, p => exact p.elim
    | [_, _], _, p => exact p.elim
    | _ :: _ :: _ :: _ :: _, _, p => exact p.elim
end
end Fd

set_option Elab.async false
set_option linter.all false
set_option maxRecDepth 100000
set_option maxHeartbeats 1000000
namespace Fd
open PySem PySem.Spec PyProof.Rows L2 GenW
/-! ### generator expressions: the frame, as it runs and sleeps -/
def AG (B : Around) (env : Env) : Around := ⟨B.handled, B.depth + 1, pushEnvs [env] B.frames, B.guards, B.units + 3⟩
abbrev gcx (X : Cx) (B : Around) (s : Shared) (H : Hp) (env : Env) (fp : List Addr) : Cx := { X with A := AG B env, s_0 := s, H_0 := H, env := env, outer := X.stack, stack := env :: X.stack, ex := fp, fn := fun _ => false, pn := [], xe := fun _ _ => False }
theorem over_gl {B : Around} {e : Expr} {cl : List Comprehension} {sc : Scope} {p : Pos} {it acc : Value} {env : Env} : B.over (.compLoop (.GeneratorExp e cl sc p) 0 it acc env) [] = AG B env := by
  obtain ⟨hd, d, fr, gs, u⟩ := B
  simp [Around.over, AG, marksOver, frameCount, unitsOf, envsOf, guardsOf, pushEnvs, pushGuards, Code.envs, Code.env?, Code.isFrame, Code.guards, Code.isGuard, Code.weight, Code.frames, Code.isCreation, Code.isCaller, Code.cUnits]
theorem over_gs {B : Around} {e : Expr} {cl : List Comprehension} {sc : Scope} {p : Pos} {it acc : Value} {env : Env} : B.over (.compStart (.GeneratorExp e cl sc p) 0 it acc env) [] = AG B env := by
  obtain ⟨hd, d, fr, gs, u⟩ := B
  simp [Around.over, AG, marksOver, frameCount, unitsOf, envsOf, guardsOf, pushEnvs, pushGuards, Code.envs, Code.env?, Code.isFrame, Code.guards, Code.isGuard, Code.weight, Code.frames, Code.isCreation, Code.isCaller, Code.cUnits]

/-- the generator's state: ws: objects that others hold, the generator's own object among them -/
structure GSt (Y : Cx) (fp ws : List Addr) (σ0 : L2.St) (H : Hp) (s : Shared) : Prop where
  inv : Inv Y [] σ0 H s
  fpn : ∀ b ∈ fp, H b = none
  wsn : ∀ b ∈ ws, H b = none ∧ (b ∈ Y.ex ∨ Y.s_0.heap.objs.size ≤ b) ∧ b ≠ Y.env.locals ∧ b ∉ fp ∧ ∃ o, s.heap.get? b = some o ∧ ∀ v, o.data ≠ .cell v
section
variable {Y : Cx} {fp ws : List Addr} {σ0 : L2.St} {H : Hp} {s : Shared}
theorem GSt.ncell (g : GSt Y fp ws σ0 H s) {b : Addr} (hb : b ∈ ws) : ∀ x c, Y.env.cells.lookup x = some c → c ≠ b := fun x c e z => by
  obtain ⟨v, o, ho, hd⟩ := g.inv.cell x c e
  obtain ⟨_, _, _, _, o', ho', hd'⟩ := g.wsn b hb
  rw [z, ho'] at ho
  cases ho
  exact hd' v hd
theorem GSt.nfs (g : GSt Y fp ws σ0 H s) {b : Addr} (hb : b ∈ ws) : b ∉ Y.fs := fun hf => by
  obtain ⟨_, o, ho, _⟩ := g.inv.ok.funs.mem hf
  rcases (g.wsn b hb).2.1 with z | z
  · exact g.inv.ok.exfs b z hf
  · exact absurd (Nat.lt_of_lt_of_le (Heap.lt_size ho) z) (Nat.lt_irrefl _)
theorem GSt.fpw (g : GSt Y fp ws σ0 H s) (hpn : Y.pn = []) : ∀ b ∈ ws, FpOk Y [] H b := fun b hb =>
  let ⟨h1, h2, h3, h4, _⟩ := g.wsn b hb
  ⟨h1, h3, g.nfs hb, h2, g.ncell hb, fun p hp => by rw [hpn] at hp; exact absurd hp (by simp)⟩
theorem GSt.fpf (g : GSt Y fp ws σ0 H s) (hpn : Y.pn = []) (hex : ∀ b ∈ fp, b ∈ Y.ex) {h : Heap} : ∀ b ∈ fp, FpOk Y (pinsAt ws h) H b := fun b hb =>
  ⟨g.fpn b hb, (g.inv.ok.exf b (hex b hb)).1, g.inv.ok.exfs b (hex b hb), .inl (hex b hb), (fun x c e => (g.inv.ok.exf b (hex b hb)).2 x c e), fun p hp z => by
    rw [hpn] at hp
    have hp : p ∈ pinsAt ws h := by simpa using hp
    obtain ⟨hw, _⟩ := of_pinsAt hp
    exact (g.wsn p.1 hw).2.2.2.1 (by rw [z]; exact hb)⟩
theorem GSt.gens (g : GSt Y fp ws σ0 H s) {g' : Array GenState} (hb : AllBare g') : GSt Y fp ws σ0 H { s with gens := g' } :=
  ⟨⟨g.inv.ok, g.inv.os, hb, g.inv.base, g.inv.loc, g.inv.cell, g.inv.free, g.inv.freeC, g.inv.pin, g.inv.hok, g.inv.len⟩, g.fpn, g.wsn⟩
theorem GSt.kept (g : GSt Y fp ws σ0 H s) {h' : Heap} {t' : Nat} (k : ∀ b o, s.heap.get? b = some o → h'.get? b = some o) : GSt Y fp ws σ0 H { s with heap := h', toks := t' } :=
  ⟨g.inv.kept k, g.fpn, fun b hb => let ⟨h1, h2, h3, h4, o, h5, h6⟩ := g.wsn b hb; ⟨h1, h2, h3, h4, o, k b o h5, h6⟩⟩
/-- the consumer's own object is changed -/
theorem GSt.turn (g : GSt Y fp ws σ0 H s) (hpn : Y.pn = []) {S : Addr} (hS : S ∈ ws) {h' : Heap} {t' : Nat} (k : ∀ b o, b ≠ S → s.heap.get? b = some o → h'.get? b = some o) (hn : ∃ o, h'.get? S = some o ∧ ∀ v, o.data ≠ .cell v) : GSt Y fp ws σ0 H { s with heap := h', toks := t' } := by
  obtain ⟨h1, h2, h3, h4, _⟩ := g.wsn S hS
  refine ⟨g.inv.turned k h1 h3 h2 (g.ncell hS) (fun p hp => by rw [hpn] at hp; exact absurd hp (by simp)), g.fpn, fun b hb => ?_⟩
  obtain ⟨q1, q2, q3, q4, o, q5, q6⟩ := g.wsn b hb
  refine ⟨q1, q2, q3, q4, ?_⟩
  by_cases hbS : b = S
  · rw [hbS]; exact hn
  · exact ⟨o, k b o hbS q5, q6⟩
end

/-! ### the segments -/
abbrev Vw := Addr → Option Obj
section
variable {Y : Cx} {fp ws : List Addr} {σ : L2.St} {vs : List Nat} {B : Around} {tn : Nat → Heap → Prop} {it : Addr} {J : It} {tg elt iter : Expr} {ifs : List Expr} {scope : Scope} {pos : Pos} {g : TG} {tt : TT} {te : TE}
  {St : Vw → Nat → Nat → Hp → Prop} {Gt : Vw → Nat → Nat → V → Hp → Prop} {Fin : Vw → Hp → Prop}
/-- what is seen of the objects at ws -/
def vw (ws : List Addr) (s : Shared) : Addr → Option Obj := fun b => if b ∈ ws then s.heap.get? b else none
/-- what the objects at ws hold is kept while the generator runs -/
def Same (ws : List Addr) (s s' : Shared) : Prop := ∀ b ∈ ws, ∀ o, s.heap.get? b = some o → s'.heap.get? b = some o
def PY (Y : Cx) (fp ws : List Addr) (tn : Nat → Heap → Prop) (σ0 : L2.St) (St : Vw → Nat → Nat → Hp → Prop) (Gt : Vw → Nat → Nat → V → Hp → Prop) : Protocol := fun n s₀ v s kap =>
  ∃ i k H y, k < n ∧ RelV y v ∧ GSt Y fp ws σ0 H s ∧ tn i s.heap ∧ Gt (vw ws s) i k y H ∧ Same ws s₀ s ∧ ∀ s'', (∃ k' H', k' < n ∧ GSt Y fp ws σ0 H' s'' ∧ tn i s''.heap ∧ St (vw ws s'') i k' H') → kap (.send .none) s''
def PR (Y : Cx) (fp ws : List Addr) (σ0 : L2.St) (Fin : Vw → Hp → Prop) (s₀ s : Shared) : Prop := ∃ H, GSt Y fp ws σ0 H s ∧ Fin (vw ws s) H ∧ Same ws s₀ s
theorem vw_same {Y : Cx} {fp ws : List Addr} {σ0 : L2.St} {H : Hp} {s s' : Shared} (G : GSt Y fp ws σ0 H s) (h : Same ws s s') : vw ws s' = vw ws s := by
  funext b
  unfold vw
  by_cases hb : b ∈ ws
  · obtain ⟨_, _, _, _, o, e, _⟩ := G.wsn b hb
    rw [if_pos hb, if_pos hb, e, h b hb o e]
  · rw [if_neg hb, if_neg hb]
def TurnOk (J : It) (σ : L2.St) (vs : List Nat) (g : TG) (tt : TT) (te : TE) (St : Vw → Nat → Nat → Hp → Prop) (Gt : Vw → Nat → Nat → V → Hp → Prop) (Fin : Vw → Hp → Prop) : Prop :=
  ∀ w i k H, St w i k H → (J.stop i H ∧ Fin w H) ∨ (J.go i H ∧ ∃ (Nx : Hp → Prop) (Gx : VK), (∀ H', Nx H' → ∃ k', k' < k ∧ St w (i + 1) k' H') ∧ (∀ y H', Gx y H' → ∃ k', k' < k ∧ Gt w (i + 1) k' y H') ∧
    ∀ x H', J.yld i H x H' → g x (wipe σ vs) H' fun σ2 H2 => wipe σ2 vs = wipe σ vs ∧ tt σ2 H2 fun b H3 => if b = true then te σ2 H3 Gx else Nx H3)
theorem seg_gen (hA : Y.A = AG B Y.env) (hc : Y.calm = true) (hxe : Y.xe = fun _ _ => False) (hpn : Y.pn = []) (hex : ∀ b ∈ fp, b ∈ Y.ex) (hco : Y.env.scope.isCoroutine = false) (T : Turn Y.prog Y.w Y.K tg J fp it tn) (pg : PG Y tg g) (pt : PTs Y ifs tt) (pe : PE Y elt te) (turn : TurnOk J σ vs g tt te St Gt Fin) :
    ∀ (n m k : Nat) (s₀ s : Shared) (i : Nat) (H : Hp), k < m → k < n → GSt Y fp ws (wipe σ vs) H s → tn i s.heap → St (vw ws s) i k H → Same ws s₀ s →
      Seg (model Y.prog Y.w) B (fun n s₀ r s₁ => r = .ok .next ∧ PR Y fp ws (wipe σ vs) Fin s₀ s₁) (PY Y fp ws tn (wipe σ vs) St Gt) n s₀
        (.compLoop (.GeneratorExp elt [⟨tg, iter, ifs, 0⟩] scope pos) 0 (.ref it) .none Y.env)
        ((model Y.prog Y.w).den (.compLoop (.GeneratorExp elt [⟨tg, iter, ifs, 0⟩] scope pos) 0 (.ref it) .none Y.env)) [] s := by
  intro n
  induction n using Nat.strongRecOn with
  | ind n ihn =>
  intro m
  induction m with
  | zero => intro k s₀ s i H hk; exact absurd hk (Nat.not_lt_zero _)
  | succ m ih =>
    intro k s₀ s i H hkm hkn G st q sm
    have I := G.inv
    have wsO : ∀ b ∈ ws, ∃ o, s.heap.get? b = some o ∧ ∀ v, o.data ≠ .cell v := fun b hb => (G.wsn b hb).2.2.2.2
    have Iw : Inv Y ([] ++ pinsAt ws s.heap) (wipe σ vs) H s := I.pinned (G.fpw hpn) wsO
    have Iw : Inv Y (pinsAt ws s.heap) (wipe σ vs) H s := by simpa using Iw
    have back : ∀ {pl : List (Addr × Obj)} {H' : Hp} {s' : Shared}, Inv Y (pinsAt ws s.heap ++ pl) (wipe σ vs) H' s' → (∀ b ∈ fp, H' b = none) → GSt Y fp ws (wipe σ vs) H' s' ∧ Same ws s₀ s' ∧ vw ws s' = vw ws s := fun {pl H' s'} I' hf => by
      have kp : ∀ b ∈ ws, ∀ o, s.heap.get? b = some o → s'.heap.get? b = some o ∧ H' b = none := fun b hb o e =>
        let z := I'.pin (b, o) (List.mem_append_right _ (List.mem_append_left _ (mem_pinsAt hb e)))
        ⟨z.1, z.2.1⟩
      refine ⟨⟨I'.pins_of fun p hp => absurd hp (by simp), hf, fun b hb => ?_⟩, fun b hb o e => (kp b hb o (sm b hb o e)).1, vw_same G fun b hb o e => (kp b hb o e).1⟩
      obtain ⟨_, q2, q3, q4, o, q5, q6⟩ := G.wsn b hb
      obtain ⟨z1, z2⟩ := kp b hb o q5
      exact ⟨z2, q2, q3, q4, o, z1, q6⟩
    show Seg _ B _ _ _ s₀ _ ((compTurn (.GeneratorExp elt [⟨tg, iter, ifs, 0⟩] scope pos) 0 (.ref it) .none Y.env).onRaise (leaving Y.env)) [] s
    rw [compTurn_gen, Sem.onRaise_eq_wrap]
    refine seg_bind_wrap (wpAny_standAt ?_)
    refine seg_bind_wrap ?_
    rw [over_gl, ← hA]
    rcases turn (vw ws s) i k H q with ⟨stop, fin⟩ | ⟨go, Nx, Gx, hNx, hGx, step⟩
    · refine thnF (T.done Y rfl rfl rfl hc i _ s _ H (fun _ _ => False) Iw (G.fpf hpn hex) st stop) fun r s1 ⟨hr, I1⟩ => ?_
      subst hr
      obtain ⟨G1, sm1, ew⟩ := back (pl := []) (by simpa using I1) G.fpn
      exact seg_end (.ok .next) ⟨rfl, H, G1, by rw [ew]; exact fin, sm1⟩
    · refine thnF (T.item Y rfl rfl rfl hc i _ s _ H (fun _ _ => False) Iw (G.fpf hpn hex) st go) fun r s1 ⟨u, hr, h1⟩ => ?_
      subst hr
      refine seg_bind_wrap ?_
      rw [over_gl, ← hA]
      refine thnF h1 fun _ s2 ⟨x, H2, I2, r2, y2, st2, n2⟩ => ?_
      have f2 : ∀ b ∈ fp, FpOk Y (pinsAt ws s.heap) H2 b := fun b hb => ⟨n2 b hb, (G.fpf hpn hex (h := s.heap) b hb).2⟩
      have I2' := I2.pinned f2 (T.obj _ _ st2)
      refine seg_bind_wrap ?_
      rw [over_gl, ← hA]
      have fin9 : ∀ {σ' : L2.St} {s' : Shared} {H' : Hp}, Inv Y (pinsAt ws s.heap ++ pinsAt fp s2.heap) σ' H' s' → wipe σ' vs = wipe σ vs → GSt Y fp ws (wipe σ vs) H' s' ∧ Same ws s₀ s' ∧ tn (i + 1) s'.heap ∧ vw ws s' = vw ws s := fun {σ' s' H'} I' hw => by
        have pin' : ∀ b ∈ fp, ∀ o, s2.heap.get? b = some o → s'.heap.get? b = some o ∧ H' b = none := fun b hb o e =>
          let z := I'.pin (b, o) (List.mem_append_right _ (List.mem_append_right _ (mem_pinsAt hb e)))
          ⟨z.1, z.2.1⟩
        have I3 : Inv Y (pinsAt ws s.heap ++ pinsAt fp s2.heap) (wipe σ vs) H' s' := I'.weak (by rw [← hw, wipe_length]) fun j v e => by
          rw [← hw] at e
          exact (wipe_some e).1
        obtain ⟨G3, sm3, ew⟩ := back I3 fun b hb => by
          obtain ⟨o, e, _⟩ := T.obj _ _ st2 b hb
          exact (pin' b hb o e).2
        exact ⟨G3, sm3, T.keep _ _ _ st2 fun b hb o e => (pin' b hb o e).1, ew⟩
      have run := pg.run _ s2 _ H2 x u _ I2' r2 (step x H2 y2)
      rw [hxe] at run
      refine thnF run fun _ s3 ⟨σ3, H3, I3, hw3, q3⟩ => ?_
      refine seg_bind_wrap ?_
      rw [over_gl, ← hA]
      have run := pt.run _ s3 σ3 H3 _ I3 q3
      rw [hxe] at run
      refine thnF run fun b s4 ⟨H4, I4, q4⟩ => ?_
      cases b with
      | false =>
        have q4 : Nx H4 := q4
        obtain ⟨G4, sm4, st4, ew⟩ := fin9 I4 hw3
        obtain ⟨k', hk', w4⟩ := hNx H4 q4
        simp only [Bool.false_eq_true, if_false]
        exact seg_again rfl (ih k' s₀ s4 (i + 1) H4 (by omega) (by omega) G4 st4 (by rw [ew]; exact w4) sm4)
      | true =>
        have q4 : te σ3 H4 Gx := q4
        simp only [if_true]
        have hy : ∀ v, yieldOut Y.env v = yieldValue v := fun v => by simp only [yieldOut, hco, Bool.false_eq_true, if_false]
        simp only [hy]
        rw [Sem.bind_eq_wrap', Sem.bind_eq_wrap', Sem.wrap_wrap, Sem.wrap_wrap]
        refine seg_wrap ?_
        rw [over_gl, ← hA]
        have run := pe.run _ s4 σ3 H4 _ I4 q4
        rw [hxe] at run
        refine thnF run fun yv s5 ⟨y, H5, I5, r5, q5⟩ => ?_
        obtain ⟨G5, sm5, st5, ew⟩ := fin9 I5 hw3
        obtain ⟨k', hk', w5⟩ := hGx y H5 q5
        cases n with
        | zero => omega
        | succ n =>
          refine seg_at (seg_yield rfl rfl rfl ⟨i + 1, k', H5, y, by show k' < n + 1 - 1; omega, r5, G5, st5, (by rw [ew]; exact w5), sm5, fun s'' ⟨k2, H6, hk2, G6, st6, w6⟩ => ?_⟩)
          exact seg_again rfl (ihn n (Nat.lt_succ_self n) (k2 + 1) k2 s'' s'' (i + 1) H6 (Nat.lt_succ_self _) hk2 G6 st6 w6 fun _ _ _ e => e)
end
end Fd

set_option Elab.async false
set_option linter.all false
set_option maxRecDepth 100000
set_option maxHeartbeats 1000000
namespace Fd
open PySem PySem.Spec PyProof.Rows L2 GenW LamX
/-! ### a generator expression is made -/
/-- arounds in which it may be woken -/
structure Near (X : Cx) (B : Around) : Prop where
  hd : B.handled = none
  fr : B.frames = X.A.frames
  dp : B.depth ≤ X.A.depth + 1
  un : B.units ≤ X.A.units + 12
theorem Near.room {X : Cx} {B : Around} {k : Nat} {env : Env} (n : Near X B) (r : Room (k + 1) X.A) : Room k (AG B env) :=
  ⟨n.hd, by have := r.dp; have := n.dp; show B.depth + 1 + 3 * k + 5 < _; omega, by have := r.un; have := n.un; show B.units + 3 + 16 * k + 200 < _; omega⟩
section
variable {X : Cx} {pins : List (Addr × Obj)} {σ : L2.St} {H : Hp} {s : Shared}
theorem lookup_in {α : Type} {l : List (Str × α)} {n : Str} {c : α} (h : l.lookup n = some c) : (n, c) ∈ l := PySem.mem_of_lookup h
/-- the generator's frame, as it is made -/
theorem gen_start {scope : Scope} {own : List (Str × Nat)} {fp : List Addr} {B : Around} {code : Value} {bi : Addr} {h' : Heap} {m0 : Str → Option Value} {og : Obj} {g' : Array GenState} {t' : Nat} (I : Inv X pins σ H s) (ok : BlkOk X.N X.env.scope scope own) (hN : X.N.Nodup) (hnc : ∀ y ∈ scope.names, y.2 ≠ .cell) (hB : Near X B) (hfp : ∀ b ∈ fp, FpOk X pins H b ∧ b < s.heap.objs.size)
    (hbi : bi = builtinsNs) (hn : h'.Ns s.heap.objs.size m0) (k : ∀ b o, s.heap.get? b = some o → h'.get? b = some o) (hg : AllBare g') :
    Inv (gcx X B s H (genEnv scope (cloFrom X.env.cells scope.names []) s.heap.objs.size code bi X.env) fp) [] (wipe σ (own.map (·.2))) H { s with heap := h'.push og, gens := g', toks := t' } := by
  have hfree : ∀ y ∈ scope.names, y.2 = .free → ∃ c, X.env.cells.lookup y.1 = some c := fun y hy e => by
    rcases ok.free y hy e with z | z
    · exact I.ok.has _ (.inl z)
    · exact I.ok.has _ (.inr z)
  have kp : ∀ b o, s.heap.get? b = some o → (h'.push og).get? b = some o := fun b o e => Heap.get?_push_of_some _ (k b o e)
  have cm : ∀ {y c}, (y, c) ∈ cloFrom X.env.cells scope.names [] → X.env.cells.lookup y = some c ∧ c < s.heap.objs.size := fun {y c} hm => by
    rcases cloFrom_mem hm with z | ⟨z, rfl⟩
    · cases z
    · obtain ⟨c, hc⟩ := hfree _ z rfl
      obtain ⟨w, q⟩ := I.cell _ _ hc
      rw [hc]
      exact ⟨rfl, q.lt⟩
  have look : ∀ {y}, scope.names.lookup y = some .free → ∃ c, (cloFrom X.env.cells scope.names []).lookup y = some c ∧ X.env.cells.lookup y = some c := fun {y} hl => by
    obtain ⟨c', e'⟩ := mem_lookup (cloFrom_has (cells := X.env.cells) (acc := []) (lookup_in hl))
    exact ⟨c', e', (cm (lookup_in e')).1⟩
  generalize hge : genEnv scope (cloFrom X.env.cells scope.names []) s.heap.objs.size code bi X.env = ge
  have hL : ge.locals = s.heap.objs.size := by rw [← hge]; rfl
  have hC : ge.cells = cloFrom X.env.cells scope.names [] := by rw [← hge]; rfl
  have hS : ge.scope = scope := by rw [← hge]; rfl
  have hfr : X.A.frames = some X.stack := I.ok.frames
  have okB : (gcx X B s H ge fp).Ok := by
    refine ⟨I.ok.mod, by show ge.scope.kind = _; rw [hS]; exact ok.kind, by rw [← hge]; exact I.ok.glob, by rw [← hge]; exact hbi, by show s.heap.objs.size ≤ ge.locals; rw [hL]; exact Nat.le_refl _, fun y z c e1 e2 => ?_, fun y hy => ?_, fun y c z e => ?_, fun _ => hB.hd, ?_, .inr ⟨rfl, by rw [← hge]; rfl⟩, fun b hb => ⟨?_, fun y c e z => ?_⟩, I.bs, Nat.le_trans I.ok.bsz I.sz, fun b o e hb => ?_, fun b hb z => ?_, I.stack, I.stkFree⟩
    · have e1 : ge.cells.lookup y = some c := e1
      have e2 : ge.cells.lookup z = some c := e2
      rw [hC] at e1 e2
      exact I.ok.inj y z c (cm (lookup_in e1)).1 (cm (lookup_in e2)).1
    · show ∃ c, ge.cells.lookup y = some c
      have hy : ge.scope.names.lookup y = some .cell ∨ ge.scope.names.lookup y = some .free := hy
      rw [hS] at hy
      rcases hy with hy | hy
      · exfalso
        exact hnc _ (lookup_in hy) rfl
      · obtain ⟨c, q, _⟩ := look hy
        exact ⟨c, by rw [hC]; exact q⟩
    · exact absurd (show false = true from z) Bool.false_ne_true
    · show pushEnvs [ge] B.frames = some (ge :: X.stack)
      rw [hB.fr, hfr]; rfl
    · show b ≠ ge.locals
      rw [hL]; exact Nat.ne_of_lt (hfp b hb).2
    · have e : ge.cells.lookup y = some c := e
      rw [hC] at e
      exact (hfp b hb).1.2.2.2.2.1 y c (cm (lookup_in e)).1 z
    · rcases (hfp b hb).1.2.2.2.1 with z | z
      · exact I.ok.noex b o e z
      · exact absurd (Nat.lt_of_lt_of_le (Heap.lt_size e) (Nat.le_trans I.ok.bsz z)) (Nat.lt_irrefl _)
    · rcases List.mem_cons.mp (I.stkSub b z) with z | z
      · exact (hfp b hb).1.2.1 z
      · exact (hfp b hb).1.2.2.1 z
  refine ⟨okB, rfl, hg, Un.kept kp, ⟨m0, ?_, fun i y av e1 e2 e3 => ?_⟩, fun y c e => ?_, ?_, fun y c e => ?_, fun p hp => absurd (show p ∈ ([] : List (Addr × Obj)) from hp) (by simp), I.hok.kept kp, by rw [wipe_length]; exact I.len⟩
  · show Heap.Ns _ ge.locals _
    rw [hL]
    exact hn.keeps fun b o e => Heap.get?_push_of_some _ e
  · obtain ⟨e2, hne⟩ := wipe_some e2
    have e3 : Vis ge.scope y := e3
    rw [hS] at e3
    have no : ¬ (scope.names.lookup y = some .local ∨ scope.names.lookup y = some .cell) := fun hh => by
      have hm : y ∈ own.map (·.1) ∨ y ∉ X.N := by
        rcases hh with z | z
        · exact ok.own (y, .local) (lookup_in z) (.inl rfl)
        · exact ok.own (y, .cell) (lookup_in z) (.inr rfl)
      rcases hm with z | z
      · obtain ⟨p, hp, hpy⟩ := List.mem_map.mp z
        have e4 := ok.ix p hp
        have hpy : p.1 = y := hpy
        rw [hpy] at e4
        exact hne (List.mem_map.mpr ⟨p, hp, nodup_ix hN e4 e1⟩)
      · exact z (List.mem_of_getElem? e1)
    have hfr : scope.names.lookup y = some .free := by
      rcases e3 with z | z | z
      · exact absurd (.inl z) no
      · exact absurd (.inr z) no
      · exact z
    obtain ⟨m, hn2, hl⟩ := I.loc
    have hvis : Vis X.env.scope y := (ok.free _ (lookup_in hfr) rfl).elim (fun z => .inr (.inl z)) (fun z => .inr (.inr z))
    obtain ⟨w, r, q⟩ := hl i y av e1 e2 hvis
    obtain ⟨c, h1, h2⟩ := look hfr
    refine ⟨w, r, .inr ⟨.inr (show ge.scope.names.lookup y = some .free by rw [hS]; exact hfr), c, by show ge.cells.lookup y = some c; rw [hC]; exact h1, ?_⟩⟩
    rcases q with ⟨z, _⟩ | ⟨_, c', e', z⟩
    · have z : X.env.scope.names.lookup y = some .local := z
      rcases ok.free _ (lookup_in hfr) rfl with z' | z' <;> rw [show X.env.scope.names.lookup y = _ from z'] at z <;> cases z
    · rw [h2] at e'; cases e'
      exact z.keeps kp
  · have e : ge.cells.lookup y = some c := e
    rw [hC] at e
    obtain ⟨w, z⟩ := I.cell y c (cm (lookup_in e)).1
    exact ⟨w, z.keeps kp⟩
  · show H ge.locals = none
    rw [hL]; exact I.hok.fresh (Nat.le_refl _)
  · have e : ge.cells.lookup y = some c := e
    rw [hC] at e
    exact I.freeC y c (cm (lookup_in e)).1
/-- a generator is made, fresh -/
structure GMk (X : Cx) (pins : List (Addr × Obj)) (σ : L2.St) (tg elt iter : Expr) (ifs : List Expr) (scope : Scope) (gpos : Pos) (vs : List Nat) (R : It → Hp → Prop) (a : Addr) (s5 : Shared) (gi : Nat) (s4 : Shared) (H4 : Hp) (genv : Env) (fp : List Addr) (it : Addr) (tn : Nat → Heap → Prop) (J : It) : Prop where
  i4 : Inv X pins σ H4 s4
  i5 : ∀ B, Near X B → Inv (gcx X B s4 H4 genv fp) [] (wipe σ vs) H4 s5
  T : Turn X.prog X.w X.K tg J fp it tn
  st : tn 0 s5.heap
  fpo : ∀ b ∈ fp, FpOk X pins H4 b ∧ b < s4.heap.objs.size
  R : R J H4
  az : s4.heap.objs.size < a
  gen : s5.heap.IsGen a gi
  gs : s5.gens[gi]? = some (.fresh (.compStart (.GeneratorExp elt [⟨tg, iter, ifs, 0⟩] scope gpos) 0 (.ref it) .none genv))
  ge : ∃ cl code, genv = genEnv scope cl s4.heap.objs.size code builtinsNs X.env
theorem gen_make {T : List (Addr × Str)} {c P : Addr} {elt tg iter : Expr} {ifs : List Expr} {gpos : Pos} {scope : Scope} {own : List (Str × Nat)} {wi : TI} {k : Nat} {R : It → Hp → Prop}
    (hr : Room k X.A) (TB : TabB X.base X.mg c P) (hcode : X.env.code = .ref c) (hmT : (P, X.env.qual ++ "<genexpr>") ∈ T) (hu : ∀ p ∈ T, p.1 = P → p.2 = X.env.qual ++ "<genexpr>") (hi : PI X tg iter wi) (ok : BlkOk X.N X.env.scope scope own) (hN : X.N.Nodup) (hnc : ∀ y ∈ scope.names, y.2 ≠ .cell) (hco : scope.isCoroutine = false) (hdot : scope.names.lookup (".0" : Str) = some NameKind.local)
    (hgf : ∀ v, genFold iter X.env v = pure v) (I : Inv X pins σ H s) (h : wi σ H fun J H1 => Tabs T H1 ∧ ∀ H2, ExtN H1 H2 → Tabs T H2 → R J H2) :
    wpAny (model X.prog X.w) X.A (eval (.GeneratorExp elt [⟨tg, iter, ifs, 0⟩] scope gpos) X.env) (fun v s5 => ∃ a gi s4 H4 genv fp it tn J, v = .ref a ∧ GMk X pins σ tg elt iter ifs scope gpos (own.map (·.2)) R a s5 gi s4 H4 genv fp it tn J) X.xe s := by
  have hfree : ∀ y ∈ scope.names, y.2 = .free → ∃ c, X.env.cells.lookup y.1 = some c := fun y hy e => by
    rcases ok.free y hy e with z | z
    · exact I.ok.has _ (.inl z)
    · exact I.ok.has _ (.inr z)
  refine wpAny_GeneratorExp_make hco (closure_ok hfree) hnc hdot ok.kind (by have := hr.dp; omega) ?_ hgf
  refine wpAny_mono (hi.run pins s σ H _ I h) (fun xv s1 h1 => wpAny_mono h1 (fun itv s2 h2 => ?_) fun _ _ x => x) fun _ _ x => x
  obtain ⟨it, fp, tn, J, H1, e, I1, Tn, st, fpo, hT, hR⟩ := h2
  subst e
  refine ⟨I1.nolimit, ?_⟩
  obtain ⟨ps, hP, ht, ha⟩ := hT _ hmT
  have hPs : s2.heap.get? P = some { cls := .none, data := .fields ps } := I1.hok P _ hP
  have cd : PySem.W.CodeHd s2.heap c P := TB.code.keeps fun b u e => I1.bk b u e
  have fps : ∀ b ∈ fp, b < s2.heap.objs.size ∧ b ≠ P := fun b hb => by
    obtain ⟨o, q, _⟩ := Tn.obj _ _ st b hb
    refine ⟨Heap.lt_size q, fun z => ?_⟩
    have := (fpo b hb).1
    rw [z, hP] at this
    cases this
  have cont : ∀ (code : Value) (h3 : Heap) (tk : Nat) (H4 : Hp), Inv X pins σ H4 { s2 with heap := h3, toks := tk } → (∀ b u, b ≠ P → s2.heap.get? b = some u → h3.get? b = some u) → s2.heap.objs.size ≤ h3.objs.size → (∀ b ∈ fp, H4 b = none) → R J H4 →
      wpAny (model X.prog X.w) X.A (builtinsFor X.env.globals X.env.builtins) (fun bi s4 =>
        ∀ h', h'.Ns s4.heap.objs.size (fun y => if y = ".0" then some (.ref it) else none) → Heap.SameBut s4.heap.objs.size (s4.heap.push { cls := .type "frame", data := .dict #[] }) h' →
          ∃ a gi s4' H4 genv fp it' tn J, Value.ref h'.objs.size = .ref a ∧ GMk X pins σ tg elt iter ifs scope gpos (own.map (·.2)) R a
            { s4 with
              gens := s4.gens.push (.fresh (.compStart (.GeneratorExp elt [⟨tg, iter, ifs, 0⟩] scope gpos) 0 (.ref it) .none (genEnv scope (cloFrom X.env.cells scope.names []) s4.heap.objs.size code bi X.env)))
              toks := s4.toks + 1 + 1 + 1
              heap := h'.push { cls := .type "generator", data := .fields #[.int s4.gens.size 0, .str "<genexpr>" (s4.toks + 1), .str (X.env.qual ++ "<genexpr>") (s4.toks + 1 + 1)] } } gi s4' H4 genv fp it' tn J) X.xe { s2 with heap := h3, toks := tk } := by
    intro code h3 tk H4 I3 keep3 hsz hfp hRJ
    obtain ⟨bm, ob, e1, e2, e3, e4, e5, e6, e7, e8⟩ := TB.bm
    refine wpAny_builtinsFor (m := X.mg) (by rw [I3.ok.glob]; exact I3.mod.glob.keeps fun b u e => I3.bk b u e) e1 e2 (I3.bk _ _ e5) e6 e7 e8 ?_
    intro h' hn' hs'
    have sz3 : (h3.push { cls := .type "frame", data := .dict #[] } : Heap).objs.size = h3.objs.size + 1 := Heap.size_push ..
    have keep' : ∀ b o, h3.get? b = some o → h'.get? b = some o := fun b o q => hs'.extBut b o (Nat.ne_of_lt (Heap.lt_size q)) (Heap.get?_push_of_some _ q)
    have hszh : h'.objs.size = h3.objs.size + 1 := by rw [hs'.1, sz3]
    have fpo4 : ∀ b ∈ fp, FpOk X pins H4 b ∧ b < h3.objs.size := fun b hb => ⟨⟨hfp b hb, (fpo b hb).2⟩, Nat.lt_of_lt_of_le (fps b hb).1 hsz⟩
    refine ⟨_, s2.gens.size, { s2 with heap := h3, toks := tk }, H4, _, fp, it, tn, J, rfl, ⟨I3, fun B hB => gen_start I3 ok hN hnc hB fpo4 rfl hn' keep' ?_, Tn, ?_, fpo4, hRJ, ?_, ⟨_, _, _, Heap.get?_push_size _ rfl, rfl, rfl, rfl⟩, Array.getElem?_push_size .., ⟨_, _, rfl⟩⟩⟩
    · exact I1.bare.push rfl
    · exact Tn.keep _ _ _ st fun b hb o q => Heap.get?_push_of_some _ (keep' b o (keep3 b o (fps b hb).2 q))
    · show h3.objs.size < h'.objs.size
      omega
  cases hf : codeAmong gpos ps.toList with
  | none =>
    refine wpAny_genexprCodeX hcode (cd.code hPs ht) (cd.tab hPs) hf fun c' h' tk hx hge hlt hco' hrec htab' _ => ?_
    obtain ⟨o1, vs, f1, tf, fl, tg, inF, tx, tt, op, _, _, _, _, _, _, _, _, _, htr, _⟩ := hco'
    obtain ⟨c2, oc, vs2, t2, e2, hoc, hd, hv⟩ := hrec
    cases e2
    have nC : H1 c' = none := I1.hok.fresh hge
    have I3 := inv_table (t' := tk) (more := #[rawInt gpos.line, rawInt gpos.col, .ref c']) (h' := h') I1 hP (fun b o hb e => hx b o hb e) htab'.2 hge ⟨oc, vs2, t2, hoc, hd, hv⟩
    have hE : ExtN H1 (upd (upd H1 P (.tbl (ps ++ #[rawInt gpos.line, rawInt gpos.col, .ref c']))) c' (CodeO c' (X.env.qual ++ "<genexpr>"))) := fun b o e n => by
      rw [upd_ne (ne_of_none e nC), upd_ne (fun z => n ps (Option.some.inj (e.symm.trans (by rw [z]; exact hP))))]
      exact e
    have eL : (ps ++ #[rawInt gpos.line, rawInt gpos.col, .ref c']).toList = ps.toList ++ [rawInt gpos.line, rawInt gpos.col, .ref c'] := by simp
    refine cont (.ref c') h' tk _ I3 (fun b u hb e => hx b u hb e) (Nat.le_trans hge (Nat.le_of_lt hlt)) (fun b hb => ?_) (hR _ hE fun p hp => ?_)
    · rw [upd_ne (Nat.ne_of_lt (Nat.lt_of_lt_of_le (fps b hb).1 hge)), upd_ne (fps b hb).2]
      exact (fpo b hb).1
    · by_cases hb : p.1 = P
      · rw [hu p hp hb, hb]
        refine ⟨_, by rw [upd_ne (ne_of_none hP nC), upd_same], by rw [eL]; exact PySem.TriplesOk_snoc _ _ _ _ ht, fun p' cv hcv => ?_⟩
        rw [eL] at hcv
        rcases among_app _ ht hcv with z | z
        · obtain ⟨c0, e1, e2⟩ := ha p' cv z
          exact ⟨c0, e1, hE _ _ e2 codeO_ne⟩
        · exact ⟨c', z, upd_same⟩
      · obtain ⟨ps', a1, a2, a3⟩ := hT p hp
        refine ⟨ps', by rw [upd_ne (ne_of_none a1 nC), upd_ne hb]; exact a1, a2, fun p' cv hcv => ?_⟩
        obtain ⟨c0, e1, e2⟩ := a3 p' cv hcv
        exact ⟨c0, e1, hE _ _ e2 codeO_ne⟩
  | some cv =>
    refine wpAny_genexprCode_hit hcode (cd.code hPs ht) hf ?_
    exact cont cv s2.heap s2.toks H1 I1 (fun b u _ e => e) (Nat.le_refl _) (fun b hb => (fpo b hb).1) (hR H1 (ExtN.refl H1) hT)
end
end Fd

set_option Elab.async false
set_option linter.all false
set_option maxRecDepth 100000
set_option maxHeartbeats 1000000
namespace Fd
open PySem PySem.Spec PyProof.Rows L2 GenW LamX
section
variable {Y : Cx} {fp ws : List Addr} {σ : L2.St} {vs : List Nat} {A B : Around} {tn : Nat → Heap → Prop} {it : Addr} {J : It} {tg elt iter : Expr} {ifs : List Expr} {scope : Scope} {pos : Pos} {g : TG} {tt : TT} {te : TE}
  {St : Vw → Nat → Nat → Hp → Prop} {Gt : Vw → Nat → Nat → V → Hp → Prop} {Fin : Vw → Hp → Prop}
def GenR (Y : Cx) (fp ws : List Addr) (σ0 : L2.St) (Fin : Vw → Hp → Prop) : GenEnd := fun n s₀ r s₁ => r = .ok .next ∧ PR Y fp ws σ0 Fin s₀ s₁
theorem seg_first (hA : Y.A = AG B Y.env) (hc : Y.calm = true) (hxe : Y.xe = fun _ _ => False) (hpn : Y.pn = []) (hex : ∀ b ∈ fp, b ∈ Y.ex) (hco : Y.env.scope.isCoroutine = false) (T : Turn Y.prog Y.w Y.K tg J fp it tn) (pg : PG Y tg g) (pt : PTs Y ifs tt) (pe : PE Y elt te) (turn : TurnOk J σ vs g tt te St Gt Fin)
    (n k : Nat) (s : Shared) (H : Hp) (hkn : k < n) (G : GSt Y fp ws (wipe σ vs) H s) (st : tn 0 s.heap) (q : St (vw ws s) 0 k H) :
    Seg (model Y.prog Y.w) B (GenR Y fp ws (wipe σ vs) Fin) (PY Y fp ws tn (wipe σ vs) St Gt) n s (.compStart (.GeneratorExp elt [⟨tg, iter, ifs, 0⟩] scope pos) 0 (.ref it) .none Y.env)
        ((model Y.prog Y.w).den (.compStart (.GeneratorExp elt [⟨tg, iter, ifs, 0⟩] scope pos) 0 (.ref it) .none Y.env)) [] s := by
  have loop := seg_gen (iter := iter) (scope := scope) (pos := pos) hA hc hxe hpn hex hco T pg pt pe turn n (k + 1) k s s 0 H (Nat.lt_succ_self _) hkn G st q fun _ _ _ e => e
  show Seg _ B _ _ _ s _ ((compStart (.GeneratorExp elt [⟨tg, iter, ifs, 0⟩] scope pos) 0 (.ref it) .none Y.env).onRaise (leaving Y.env)) [] s
  unfold compStart
  rw [Sem.onRaise_eq_wrap]
  show Seg _ B _ _ _ s _ ((ask >>= _).wrap _ _ _ _) [] s
  refine seg_bind_wrap (wpAny_askSetting ?_)
  split
  · exact seg_again rfl loop
  · first
      | exact seg_bind_wrap (wpAny_rule (seg_bind_wrap (wpAny_standAt (seg_bind_wrap (T.self _ 0 s _ _ st (seg_again rfl loop))))))
      | (refine seg_bind_wrap (wpAny_rule ?_); show Seg _ B _ _ _ s _ ((standAt iter.pos >>= _).wrap _ _ _ _) [] s; exact seg_bind_wrap (wpAny_standAt (seg_bind_wrap (T.self _ 0 s _ _ st (seg_again rfl loop)))))
/-- it sleeps ahead of item i; at most n items are left -/
structure Live (Y : Cx) (B : Around) (fp ws : List Addr) (tn : Nat → Heap → Prop) (σ0 : L2.St) (St : Vw → Nat → Nat → Hp → Prop) (Gt : Vw → Nat → Nat → V → Hp → Prop) (Fin : Vw → Hp → Prop) (a gi i n : Nat) (s : Shared) : Prop where
  gen : s.heap.IsGen a gi
  gs : ∃ x, s.gens[gi]? = some x ∧ ∀ s'', (∃ k H, k < n ∧ GSt Y fp ws σ0 H s'' ∧ tn i s''.heap ∧ St (vw ws s'') i k H) → x.Goes (model Y.prog Y.w) B (GenR Y fp ws σ0 Fin) (PY Y fp ws tn σ0 St Gt) n (.send .none) s''
theorem Live.mono' {σ0 : L2.St} {a gi i n : Nat} {s s' : Shared} (l : Live Y B fp ws tn σ0 St Gt Fin a gi i n s) (hg : s'.gens = s.gens) (hk : ∀ o, s.heap.get? a = some o → s'.heap.get? a = some o) : Live Y B fp ws tn σ0 St Gt Fin a gi i n s' :=
  ⟨let ⟨o, nm, qn, ho, r⟩ := l.gen; ⟨o, nm, qn, hk o ho, r⟩, by rw [hg]; exact l.gs⟩
theorem Live.mono {a gi i n : Nat} {s s' : Shared} (l : Live Y B fp ws tn (wipe σ vs) St Gt Fin a gi i n s) (hg : s'.gens = s.gens) (hk : ∀ o, s.heap.get? a = some o → s'.heap.get? a = some o) : Live Y B fp ws tn (wipe σ vs) St Gt Fin a gi i n s' :=
  ⟨let ⟨o, nm, qn, ho, r⟩ := l.gen; ⟨o, nm, qn, hk o ho, r⟩, by rw [hg]; exact l.gs⟩
theorem gen_next {a gi i n k : Nat} {s : Shared} {H : Hp} {σ0 : L2.St} {Q : Option Value → Shared → Prop} {E : Value → Shared → Prop} (hAB : A.in1 = B) (hh : A.handled = none) (hroom : A.depth < recursionLimit) (ha : a ∈ ws) (l : Live Y B fp ws tn σ0 St Gt Fin a gi i n s) (hkn : k < n) (G : GSt Y fp ws σ0 H s) (st : tn i s.heap) (q : St (vw ws s) i k H)
    (hdone : ∀ s' H', GSt Y fp ws σ0 H' s' → Fin (vw ws s') H' → Same ws s s' → Q none s')
    (hitem : ∀ m v s' i' k' H' y, n = m + 1 → k' < m → RelV y v → GSt Y fp ws σ0 H' s' → tn i' s'.heap → Gt (vw ws s') i' k' y H' → Same ws s s' → Live Y B fp ws tn σ0 St Gt Fin a gi i' m s' → Q (some v) s') :
    wpAny (model Y.prog Y.w) A (pyNext (.ref a)) Q E s := by
  subst hAB
  obtain ⟨x, hx, hgo⟩ := l.gs
  have hgl : gi < s.gens.size := (Array.getElem?_eq_some_iff.mp hx).1
  refine wpAny_gsz (n := gi + 1) hgl (wpAny_pyNext_genexpQ (P := fun n s₀ s₁ => PR Y fp ws σ0 Fin s₀ s₁) hh G.inv.nolimit hroom l.gen hx (hgo _ ⟨k, H, hkn, G.gens (allBare_setGen G.inv.bare rfl), st, q⟩) (fun v s₁ gs' hb hv => ?_) fun s₁ hp h' hk => ?_)
  · intro hsz
    obtain ⟨i', k', H', y, hk', ry, G', st', gt, sm, hkap⟩ := hv
    have hsz1 : gi < s₁.gens.size := by
      have q : (s₁.setGen gi gs').gens.size = s₁.gens.size := setGen_size _ _ _
      have hsz' : gi + 1 ≤ (s₁.setGen gi gs').gens.size := hsz
      omega
    cases n with
    | zero =>
      have : k' < 0 - 1 := hk'
      omega
    | succ m =>
      refine hitem m v _ i' k' H' y rfl hk' ry (G'.gens (allBare_setGen G'.inv.bare hb)) st' gt (fun b hb o e => sm b hb o e) ⟨?_, gs', setGen_at hsz1, fun s'' hs => ?_⟩
      · obtain ⟨o, nm, qn, ho, r⟩ := l.gen
        exact ⟨o, nm, qn, sm a ha o ho, r⟩
      · obtain ⟨k2, H2, h1, h2, h3, h4⟩ := hs
        exact hkap s'' ⟨k2, H2, h1, h2, h3, h4⟩
  · intro _
    obtain ⟨H', G', fin, sm⟩ := hp
    have G2 := G'.kept (t' := s₁.toks) hk
    have ew : vw ws { s₁ with heap := h' } = vw ws s₁ := vw_same (s' := { s₁ with heap := h' }) G' fun b _ o e => hk b o e
    exact hdone _ H' (G2.gens (allBare_setGen G'.inv.bare rfl)) (show Fin (vw ws { s₁ with heap := h' }) H' by rw [ew]; exact fin) fun b hb o e => hk b o (sm b hb o e)
end
end Fd

set_option Elab.async false
set_option linter.all false
set_option maxRecDepth 100000
set_option maxHeartbeats 1000000
namespace Fd
open PySem PySem.Spec PyProof.Rows L2 GenW LamX
/-! ### a block's own names -/
def wipeE (σ : En) : List Nat → En
  | [] => σ
  | v :: vs => (wipeE σ vs).set v none
def NoX : XK := fun _ _ _ => False
def nox {α : Type} (m : M α) : M α := fun S => match m S with
  | .exc _ _ => .stk
  | r => r
section
variable {G : Gx} {μ : Nat → Addr} {S : Sto} {H : Hp} {W : XK}
theorem nox_bind {α β : Type} {m : M α} {k : α → M β} {Q : β → Sto → (Nat → Addr) → Hp → Prop} (p : Post G μ S H W Q ((nox m >>= k) S)) : Post G μ S H NoX (fun a S1 μ1 H1 => Post G μ1 S1 H1 W Q (k a S1)) (m S) := by
  have p := Post.bind p
  unfold nox at p
  cases e : m S with
  | ok a S1 => rw [e] at p; exact p
  | exc c S1 => rw [e] at p; exact p.elim
  | stk => rw [e] at p; exact p.elim
theorem wipeE_length (σ : En) : ∀ vs : List Nat, (wipeE σ vs).length = σ.length
  | [] => rfl
  | v :: vs => by unfold wipeE; rw [List.length_set, wipeE_length σ vs]
theorem wipeE_some {σ : En} {i : Nat} {x : D} : ∀ {vs : List Nat}, (wipeE σ vs)[i]? = some (some x) → σ[i]? = some (some x) ∧ i ∉ vs
  | [], h => ⟨h, by simp⟩
  | v :: vs, h => by
    unfold wipeE at h
    by_cases hi : v = i
    · subst hi
      by_cases hv : v < (wipeE σ vs).length
      · rw [List.getElem?_set_self hv] at h; cases h
      · rw [List.getElem?_eq_none (by simpa using hv)] at h; cases h
    · rw [List.getElem?_set_ne hi] at h
      obtain ⟨h1, h2⟩ := wipeE_some h
      exact ⟨h1, by simp only [List.mem_cons, not_or]; exact ⟨fun e => hi e.symm, h2⟩⟩
theorem At.wipe {σd : En} {σ : L2.St} (a : At G σd S μ σ H) (vs : List Nat) : At G (wipeE σd vs) S μ (L2.wipe σ vs) H :=
  ⟨⟨by rw [wipeE_length, wipe_length]; exact a.en.len, fun i d e => by
    obtain ⟨e1, e2⟩ := wipeE_some e
    obtain ⟨v, h1, h2⟩ := a.en.at_ i d e1
    exact ⟨v, by rw [wipe_out e2]; exact h1, h2⟩⟩, a.lnk⟩
theorem wipe_set {σ : L2.St} {i : Nat} {x : Option V} : ∀ {vs : List Nat}, i ∈ vs → L2.wipe (σ.set i x) vs = L2.wipe σ vs
  | [], h => absurd h (by simp)
  | v :: vs, h => by
    unfold L2.wipe
    by_cases hi : i ∈ vs
    · rw [wipe_set hi]
    · have e : i = v := by
        rcases List.mem_cons.mp h with z | z
        · exact z
        · exact absurd z hi
      subst e
      have key : ∀ (vs : List Nat), i ∉ vs → L2.wipe (σ.set i x) vs = (L2.wipe σ vs).set i x := by
        intro vs
        induction vs with
        | nil => intro _; rfl
        | cons w ws ih =>
          intro hn
          unfold L2.wipe
          rw [ih fun z => hn (List.mem_cons_of_mem _ z), List.set_comm _ _ (fun z => hn (by rw [z]; exact List.mem_cons_self))]
      rw [key vs hi, List.set_set]
end
theorem wipe_none {σ : L2.St} {i : Nat} : ∀ {vs : List Nat}, i ∈ vs → i < σ.length → (L2.wipe σ vs)[i]? = some none
  | [], h, _ => absurd h (by simp)
  | v :: vs, h, hl => by
    unfold L2.wipe
    by_cases hi : v = i
    · subst hi
      rw [List.getElem?_set_self (by rw [wipe_length]; exact hl)]
    · rw [List.getElem?_set_ne hi]
      exact wipe_none ((List.mem_cons.mp h).resolve_left fun z => hi z.symm) hl
theorem wipe_wipe (σ : L2.St) (vs : List Nat) : L2.wipe (L2.wipe σ vs) vs = L2.wipe σ vs := by
  refine List.ext_getElem? fun i => ?_
  by_cases hi : i ∈ vs
  · by_cases hl : i < σ.length
    · rw [wipe_none hi (by rw [wipe_length]; exact hl), wipe_none hi hl]
    · rw [List.getElem?_eq_none (by rw [wipe_length, wipe_length]; omega), List.getElem?_eq_none (by rw [wipe_length]; omega)]
  · rw [wipe_out hi]
/-! ### targets within a block -/
section
variable {X : Cx} {G : Gx} {W : XK} {vs : List Nat}
def rdGc (G : Gx) (W : XK) (vs : List Nat) (g : D → En → M En) : TG := fun v σ H Q => ∃ d σd S μ, At G σd S μ σ H ∧ RV G μ S.n H d v ∧ Post G μ S H W (fun σd' S' μ' H' => ∀ σ', REn G μ' S'.n H' σd' σ' → L2.wipe σ' vs = L2.wipe σ vs → Q σ' H') (g d σd S)
def rdGcs (G : Gx) (W : XK) (vs : List Nat) (g : List D → En → M En) : TGs := fun us σ H Q => ∃ ds σd S μ, At G σd S μ σ H ∧ RVs G μ S.n H ds us ∧ Post G μ S H W (fun σd' S' μ' H' => ∀ σ', REn G μ' S'.n H' σd' σ' → L2.wipe σ' vs = L2.wipe σ vs → Q σ' H') (g ds σd S)
abbrev SGc (X : Cx) (G : Gx) (W : XK) (vs : List Nat) (tg : Expr) (g : D → En → M En) : Prop := PG X tg (rdGc G W vs g)
abbrev SGcs (X : Cx) (G : Gx) (W : XK) (vs : List Nat) (tgs : List Expr) (g : List D → En → M En) : Prop := PGs X tgs (rdGcs G W vs g)
theorem sgc_name (i : Nat) {x : Str} {pos : Pos} (hN : X.N.Nodup) (hv : i ∈ vs := by decide) (hi : X.N[i]? = some x := by rfl) (hx : Loc X.env.scope x := by first | exact Or.inl rfl | exact Or.inr rfl) (hf : X.fn x = true ∨ X.env.scope.names.lookup x = some .local := by first | exact .inl rfl | exact .inr rfl | assumption) : SGc X G W vs (.Name x pos) (nameG i) :=
  pg_imp (pg_name hN hi hx hf) fun v σ H Q ⟨d, σd, S, μ, a, r, h⟩ => (Post.here a.lnk h) _ (a.en.set r) (wipe_set hv)
theorem sgcs_nil : SGcs X G W vs [] nilG := pgs_imp pgs_nil fun us σ H Q ⟨ds, σd, S, μ, a, r, h⟩ => by
  cases ds with
  | nil => exact ⟨r, (Post.here a.lnk h) _ a.en rfl⟩
  | cons _ _ => exact h.elim
theorem sgcs_cons {tg : Expr} {tgs : List Expr} {g : D → En → M En} {gs : List D → En → M En} (h1 : SGc X G W vs tg g) (h2 : SGcs X G W vs tgs gs) (hs : (assignEach (tg :: tgs) X.env).map (·.2) = assign tg X.env :: (assignEach tgs X.env).map (·.2) := by rfl) : SGcs X G W vs (tg :: tgs) (consG g gs) := by
  refine pgs_imp (pgs_cons h1 h2 hs) fun us σ H Q ⟨ds, σd, S, μ, a, r, h⟩ => ?_
  cases ds with
  | nil => exact h.elim
  | cons d ds =>
    obtain ⟨v, vr, rfl, r1, r2⟩ := r
    refine ⟨v, vr, rfl, d, σd, S, μ, a, r1, (Post.bind (k := fun σ' => gs ds σ') h).mono fun σd' S1 μ1 H1 s q σ' en hw => ?_⟩
    exact ⟨ds, σd', S1, μ1, ⟨en, s.lnk⟩, s.rvs a.lnk r2, Post.mono (fun a S' μ' H' _ z σ2 en2 hw2 => z σ2 en2 (hw2.trans hw)) q⟩
theorem sgc_tup {tgs : List Expr} {k : Nat} {gs : List D → En → M En} {pos : Pos} (n : Nat) (hK : G.K = X.K) (hc : X.calm = true) (h : SGcs X G W vs tgs gs) (hn : (assignEach tgs X.env).length = n := by rfl) (hst : (assignEach tgs X.env).findIdx? (·.1) = none := by rfl) : SGc X G W vs (.Tuple tgs k pos) (tupG n gs) :=
  pg_imp (pg_tup hc h hn hst) fun v σ H Q ⟨d, σd, S, μ, a, r, p⟩ => by
    unfold tupG at p
    cases e : tupD d with
    | none => rw [e] at p; exact p.elim
    | some ds =>
      rw [e] at p
      obtain ⟨ad, us, rfl, h1, h2⟩ := tupD_ok r e
      by_cases hl : ds.length = n
      · simp only [hl, if_true] at p
        exact ⟨ad, us, rfl, by rw [← hK]; exact h1, by rw [← h2.length]; exact hl, ds, σd, S, μ, a, h2, p⟩
      · simp only [hl, if_false] at p
        exact p.elim
abbrev STs (X : Cx) (G : Gx) (W : XK) (ifs : List Expr) (t : En → M Bool) : Prop := PTs X ifs (rdT G W t)
def yesT : En → M Bool := fun _ => M.pure true
theorem pts_imp {ifs : List Expr} {t t' : TT} (h : PTs X ifs t) (m : ∀ σ H Q, t' σ H Q → t σ H Q) : PTs X ifs t' := ⟨fun pins s σ H Q I q => h.run pins s σ H Q I (m σ H Q q)⟩
theorem sts_nil : STs X G W [] yesT := pts_imp pts_nil fun σ H Q ⟨σd, S, μ, a, h⟩ => Post.here (W := W) a.lnk h
theorem sts_one {c : Expr} {t : En → M Bool} (h : STe X G W c t) : STs X G W [c] t := pts_one h
end
/-! ### the generator's reading -/
/-- one item: what is handed out, if anything -/
def bodG (vs : List Nat) (g : D → En → M En) (t : En → M Bool) (fe : En → M D) (σ : En) : D → M (Option D) := fun d => g d (wipeE σ vs) >>= fun σ1 => t σ1 >>= fun b => if b = true then fe σ1 >>= fun y => M.pure (some y) else M.pure none
def genL (bod : D → M (Option D)) (chk : List D → D → Option (Option D)) (fin : List D → M D) : List D → List D → M D
  | ys, [] => fin ys
  | ys, x :: xs => nox (bod x) >>= fun o => match o with
    | none => genL bod chk fin ys xs
    | some d => match chk ys d with
      | none => M.stk
      | some (some r) => M.pure r
      | some none => genL bod chk fin (ys ++ [d]) xs
def genE (fit : En → M (List D)) (vs : List Nat) (g : D → En → M En) (t : En → M Bool) (fe : En → M D) (chk : List D → D → Option (Option D)) (fin : List D → M D) : En → M D := fun σ => fit σ >>= fun ds => genL (bodG vs g t fe σ) chk fin [] ds
section
variable {G : Gx} {W : XK}
abbrev WQ (G : Gx) (Q : VK) : D → Sto → (Nat → Addr) → Hp → Prop := fun d S' μ' H' => ∀ v, RV G μ' S'.n H' d v → Q v H'
def StD (G : Gx) (W : XK) (Q : VK) (bod : D → M (Option D)) (chk : List D → D → Option (Option D)) (fin : List D → M D) (Rp : List V → Vw → Prop) (ds : List D) (μ1 : Nat → Addr) (S1 : Sto) (H1 : Hp) (w : Vw) (i k : Nat) (H : Hp) : Prop :=
  k = ds.length - i ∧ i ≤ ds.length ∧ ∃ ys us S μ, Rp us w ∧ RVs G μ S.n H ys us ∧ Stp G μ1 S1 H1 μ S H ∧ Post G μ S H W (WQ G Q) (genL bod chk fin ys (ds.drop i) S)
def GtD (G : Gx) (W : XK) (Q : VK) (bod : D → M (Option D)) (chk : List D → D → Option (Option D)) (fin : List D → M D) (Rp : List V → Vw → Prop) (ds : List D) (μ1 : Nat → Addr) (S1 : Sto) (H1 : Hp) (w : Vw) (i k : Nat) (y : V) (H : Hp) : Prop :=
  k = ds.length - i ∧ i ≤ ds.length ∧ ∃ ys us d S μ, Rp us w ∧ RVs G μ S.n H ys us ∧ RV G μ S.n H d y ∧ Stp G μ1 S1 H1 μ S H ∧ ((∃ r, chk ys d = some (some r) ∧ Post G μ S H W (WQ G Q) (.ok r S)) ∨ (chk ys d = some none ∧ Post G μ S H W (WQ G Q) (genL bod chk fin (ys ++ [d]) (ds.drop i) S)))
def FinD (G : Gx) (W : XK) (Q : VK) (fin : List D → M D) (Rp : List V → Vw → Prop) (μ1 : Nat → Addr) (S1 : Sto) (H1 : Hp) (w : Vw) (H : Hp) : Prop :=
  ∃ ys us S μ, Rp us w ∧ RVs G μ S.n H ys us ∧ Stp G μ1 S1 H1 μ S H ∧ Post G μ S H W (WQ G Q) (fin ys S)
theorem turnD {J : It} {σ : L2.St} {σd : En} {vs : List Nat} {g : D → En → M En} {t : En → M Bool} {fe : En → M D} {Q : VK} {chk : List D → D → Option (Option D)} {fin : List D → M D} {Rp : List V → Vw → Prop} {ds : List D} {μ1 : Nat → Addr} {S1 : Sto} {H1 : Hp}
    (a : At G σd S1 μ1 σ H1) (ok : ItOk G J μ1 S1 H1 ds) :
    TurnOk J σ vs (rdGc G NoX vs g) (rdT G NoX t) (rdE G NoX fe) (StD G W Q (bodG vs g t fe σd) chk fin Rp ds μ1 S1 H1) (GtD G W Q (bodG vs g t fe σd) chk fin Rp ds μ1 S1 H1) (FinD G W Q fin Rp μ1 S1 H1) := by
  rintro w i k H ⟨rfl, hi, ys, us, S, μ, rp, ry, s, p⟩
  obtain ⟨o1, o2, o3⟩ := ok μ S H s
  by_cases hlt : i < ds.length
  · refine .inr ⟨o1 i hlt, fun H' => StD G W Q (bodG vs g t fe σd) chk fin Rp ds μ1 S1 H1 w (i + 1) (ds.length - (i + 1)) H', fun y H' => GtD G W Q (bodG vs g t fe σd) chk fin Rp ds μ1 S1 H1 w (i + 1) (ds.length - (i + 1)) y H', fun H' z => ⟨_, by omega, z⟩, fun y H' z => ⟨_, by omega, z⟩, fun x H' y => ?_⟩
    have hd : ds[i]? = some ds[i] := List.getElem?_eq_getElem hlt
    obtain ⟨s2, r2⟩ := o3 i _ hd x H' y
    rw [List.drop_eq_getElem_cons hlt] at p
    have p1 := nox_bind (k := fun o => match o with
      | none => genL (bodG vs g t fe σd) chk fin ys (ds.drop (i + 1))
      | some d => match chk ys d with
        | none => M.stk
        | some (some r) => M.pure r
        | some none => genL (bodG vs g t fe σd) chk fin (ys ++ [d]) (ds.drop (i + 1))) p
    have a0 : At G σd S μ σ H := a.step s
    refine ⟨ds[i], wipeE σd vs, S, μ, (a0.step s2).wipe vs, r2, ?_⟩
    have p2 := Post.bind (k := fun σ1 => t σ1 >>= fun b => if b = true then fe σ1 >>= fun y => M.pure (some y) else M.pure none) p1
    refine (p2.later s2).mono fun σd3 S3 μ3 H3 s3 q3 σ3 en3 hw => ⟨hw.trans (wipe_wipe σ vs), ?_⟩
    refine ⟨σd3, S3, μ3, ⟨en3, s3.lnk⟩, (Post.bind (k := fun b => if b = true then fe σd3 >>= fun y => M.pure (some y) else M.pure none) q3).mono fun b S4 μ4 H4 s4 q4 => ?_⟩
    have s24 := (s2.trans s3).trans s4
    cases b with
    | false =>
      have q5 := Post.here (W := NoX) s4.lnk q4
      exact ⟨rfl, hlt, ys, us, S4, μ4, rp, s24.rvs s.lnk ry, s.trans s24, q5⟩
    | true =>
      refine ⟨σd3, S4, μ4, ⟨en3.mono s4.grow s3.lnk.tf, s4.lnk⟩, (Post.bind (k := fun y => M.pure (some y)) q4).mono fun d S5 μ5 H5 s5 q5 v rv => ?_⟩
      have s25 := s24.trans s5
      have q6 := Post.here (W := NoX) s5.lnk q5
      refine ⟨rfl, hlt, ys, us, d, S5, μ5, rp, s25.rvs s.lnk ry, rv, s.trans s25, ?_⟩
      simp only at q6
      cases ec : chk ys d with
      | none => rw [ec] at q6; exact q6.elim
      | some o =>
        rw [ec] at q6
        cases o with
        | none => exact .inr ⟨rfl, q6⟩
        | some r => exact .inl ⟨r, rfl, q6⟩
  · have e : i = ds.length := by omega
    subst e
    rw [List.drop_length] at p
    exact .inl ⟨o2, ys, us, S, μ, rp, ry, s, p⟩
end
end Fd

set_option Elab.async false
set_option linter.all false
set_option maxRecDepth 100000
set_option maxHeartbeats 1000000
namespace Fd
open PySem PySem.Spec PyProof.Rows L2 GenW LamX
section
variable {X : Cx} {pins : List (Addr × Obj)} {σ : L2.St} {tg elt iter : Expr} {ifs : List Expr} {scope : Scope} {gpos : Pos} {vs : List Nat} {R : It → Hp → Prop} {a gi : Nat} {s5 s4 : Shared} {H4 : Hp} {genv : Env} {fp ws : List Addr} {it : Addr} {tn : Nat → Heap → Prop} {J : It} {B : Around}
theorem GMk.back (M : GMk X pins σ tg elt iter ifs scope gpos vs R a s5 gi s4 H4 genv fp it tn J) {H : Hp} {s : Shared} {σ0 : L2.St} (g : GSt (gcx X B s4 H4 genv fp) fp ws σ0 H s) : Inv X pins σ H s :=
  M.i4.call' (ch := fp) g.inv.os g.inv.base g.inv.hok g.inv.bare fun b hb => let z := (M.fpo b hb).1; ⟨z.2.2.2.1, z.2.1, z.2.2.2.2.1, z.2.2.2.2.2⟩
theorem GMk.gst (M : GMk X pins σ tg elt iter ifs scope gpos vs R a s5 gi s4 H4 genv fp it tn J) (hB : Near X B) {h6 : Heap} {t6 : Nat} (k : ∀ b o, s5.heap.get? b = some o → h6.get? b = some o) (hws : ∀ b ∈ ws, b = a ∨ (s5.heap.objs.size ≤ b ∧ ∃ o, h6.get? b = some o ∧ ∀ v, o.data ≠ .cell v)) :
    GSt (gcx X B s4 H4 genv fp) fp ws (L2.wipe σ vs) H4 { s5 with heap := h6, toks := t6 } := by
  have I := (M.i5 B hB).kept (t' := t6) k
  obtain ⟨cl, code, e⟩ := M.ge
  have hL : genv.locals = s4.heap.objs.size := by rw [e]; rfl
  have h45 : s4.heap.objs.size ≤ s5.heap.objs.size := (M.i5 B hB).sz
  have off : ∀ b, s4.heap.objs.size < b → H4 b = none ∧ (b ∈ fp ∨ s4.heap.objs.size ≤ b) ∧ b ≠ genv.locals ∧ b ∉ fp := fun b hb =>
    ⟨M.i4.hok.fresh (Nat.le_of_lt hb), .inr (Nat.le_of_lt hb), by rw [hL]; exact Nat.ne_of_gt hb, fun z => absurd (M.fpo b z).2 (Nat.not_lt.mpr (Nat.le_of_lt hb))⟩
  refine ⟨I, fun b hb => (M.fpo b hb).1.1, fun b hb => ?_⟩
  rcases hws b hb with z | ⟨z, o, e1, e2⟩
  · rw [z]
    obtain ⟨q1, q2, q3, q4⟩ := off a M.az
    obtain ⟨o, nm, qn, ho, _, hd, _⟩ := M.gen
    exact ⟨q1, q2, q3, q4, o, k a o ho, fun v e => by rw [hd] at e; cases e⟩
  · have lt : s4.heap.objs.size < b := by
      obtain ⟨o, nm, qn, ho, _⟩ := M.gen
      exact Nat.lt_of_lt_of_le (Nat.lt_trans M.az (Heap.lt_size ho)) z
    obtain ⟨q1, q2, q3, q4⟩ := off b lt
    exact ⟨q1, q2, q3, q4, o, e1, e2⟩
end
section
variable {X : Cx} {G : Gx} {W : XK} {pins : List (Addr × Obj)} {σ : L2.St} {tg elt iter : Expr} {ifs : List Expr} {scope : Scope} {gpos : Pos} {vs : List Nat} {R : It → Hp → Prop} {a gi : Nat} {s5 s4 : Shared} {H4 : Hp} {genv : Env} {fp ws : List Addr} {it : Addr} {tn : Nat → Heap → Prop} {J : It} {B : Around}
  {g : D → En → M En} {t : En → M Bool} {fe : En → M D} {Q : VK} {chk : List D → D → Option (Option D)} {fin : List D → M D} {Rp : List V → Vw → Prop} {ds : List D} {μ1 : Nat → Addr} {S1 : Sto} {σd : En}
/-- the pieces of a generator expression, whatever its frame -/
structure GPc (X : Cx) (G : Gx) (scope : Scope) (vs : List Nat) (tg elt : Expr) (ifs : List Expr) (g : D → En → M En) (t : En → M Bool) (fe : En → M D) : Prop where
  run : ∀ (B : Around) (s : Shared) (H : Hp) (cl : List (Str × Addr)) (C : Addr) (code : Value) (fp : List Addr), Near X B →
    SGc (gcx X B s H (genEnv scope cl C code builtinsNs X.env) fp) G NoX vs tg g ∧ STs (gcx X B s H (genEnv scope cl C code builtinsNs X.env) fp) G NoX ifs t ∧ SE (gcx X B s H (genEnv scope cl C code builtinsNs X.env) fp) G NoX elt fe
abbrev RpT : List V → Vw → Prop := fun _ _ => True
abbrev LiveD (X : Cx) (G : Gx) (W : XK) (Q : VK) (B : Around) (s4 : Shared) (H4 : Hp) (genv : Env) (fp ws : List Addr) (tn : Nat → Heap → Prop) (σ : L2.St) (vs : List Nat) (g : D → En → M En) (t : En → M Bool) (fe : En → M D) (σd : En) (chk : List D → D → Option (Option D)) (fin : List D → M D) (Rp : List V → Vw → Prop) (ds : List D) (μ1 : Nat → Addr) (S1 : Sto) (a gi i n : Nat) (s : Shared) : Prop :=
  Live (gcx X B s4 H4 genv fp) B fp ws tn (L2.wipe σ vs) (StD G W Q (bodG vs g t fe σd) chk fin Rp ds μ1 S1 H4) (GtD G W Q (bodG vs g t fe σd) chk fin Rp ds μ1 S1 H4) (FinD G W Q fin Rp μ1 S1 H4) a gi i n s
theorem GMk.live (M : GMk X pins σ tg elt iter ifs scope gpos vs R a s5 gi s4 H4 genv fp it tn J) (hB : Near X B) (hc : X.calm = true) (hco : scope.isCoroutine = false) (pc : GPc X G scope vs tg elt ifs g t fe) (a0 : At G σd S1 μ1 σ H4) (ok : ItOk G J μ1 S1 H4 ds) {s6 : Shared} (hg : s6.gens = s5.gens) (k : ∀ o, s5.heap.get? a = some o → s6.heap.get? a = some o) :
    LiveD X G W Q B s4 H4 genv fp ws tn σ vs g t fe σd chk fin Rp ds μ1 S1 a gi 0 (ds.length + 1) s6 := by
  obtain ⟨cl, code, e⟩ := M.ge
  obtain ⟨p1, p2, p3⟩ := pc.run B s4 H4 cl s4.heap.objs.size code fp hB
  refine ⟨let ⟨o, nm, qn, ho, r⟩ := M.gen; ⟨o, nm, qn, k o ho, r⟩, _, (by rw [hg]; exact M.gs), fun s'' ⟨kk, H, hk, G', st, q⟩ => ?_⟩
  subst e
  exact ⟨rfl, seg_first (Y := gcx X B s4 H4 (genEnv scope cl s4.heap.objs.size code builtinsNs X.env) fp) rfl hc rfl rfl (fun _ h => h) hco M.T p1 p2 p3 (turnD a0 ok) _ kk s'' H hk G' st q⟩
/-- the state ahead of the first item -/
theorem StD.first (L : Lnk G μ1 S1 H4) {w : Vw} (rp : Rp [] w) (p : Post G μ1 S1 H4 W (WQ G Q) (genL (bodG vs g t fe σd) chk fin [] ds S1)) : StD G W Q (bodG vs g t fe σd) chk fin Rp ds μ1 S1 H4 w 0 ds.length H4 :=
  ⟨rfl, Nat.zero_le _, [], [], S1, μ1, rp, rfl, .refl L, p⟩
/-! ### any, all -/
def chkB (b : Bool) : List D → D → Option (Option D) := fun _ d => match d with
  | .bl x => if x = b then some (some (.bl b)) else some none
  | _ => none
def finB (b : Bool) : List D → M D := fun _ => M.pure (.bl b)
theorem any_loop {Y : Cx} {A : Around} {bod : D → M (Option D)} {σ0 : L2.St} {Rr : Result → Shared → Prop} {H1 : Hp} (hh : A.handled = none) (hd : A.depth < recursionLimit) (ha : a ∈ ws) :
    ∀ (n i k : Nat) (H : Hp) (s : Shared), Live Y A.in1.in1 fp ws tn σ0 (StD G W Q bod (chkB true) (finB false) RpT ds μ1 S1 H1) (GtD G W Q bod (chkB true) (finB false) RpT ds μ1 S1 H1) (FinD G W Q (finB false) RpT μ1 S1 H1) a gi i n s → k < n → GSt Y fp ws σ0 H s → tn i s.heap → StD G W Q bod (chkB true) (finB false) RpT ds μ1 S1 H1 (vw ws s) i k H →
      (∀ b s' H', GSt Y fp ws σ0 H' s' → Q (.bl b) H' → Rr (.ok (.ret (.bool b))) s') → codeAny (model Y.prog Y.w) A (.builtin "any.loop" ⟨[.ref a], []⟩) Rr s := by
  intro n
  induction n using Nat.strongRecOn with
  | ind n ih =>
  intro i k H s l hk Gs st q hR
  refine (codeAny_builtin F.entry_any_loop) ?_
  rw [(Around.under_plainId F.plain_any_loop _)]
  show wpAny _ A.in1 (pyNext (.ref a) >>= _) _ _ s
  refine wpAny_bind (gen_next (B := A.in1.in1) rfl hh hd ha l hk Gs st q (fun s' H' G' f sm => ?_) fun m v s' i' k' H' y hn hk' ry G' st' gt sm l' => ?_)
  · obtain ⟨ys, us, S, μ, _, _, s1, p⟩ := f
    exact wpAny_bind (wpAny_rule (wpAny_pure (hR false s' H' G' ((Post.here (W := W) s1.lnk p) _ rfl))))
  · obtain ⟨e1, e2, ys, us, d, S, μ, rp, rys, rd, s1, p⟩ := gt
    cases d with
    | bl b =>
      have ry1 : y = .bl b := rd
      subst ry1
      have ry2 : v = Value.bool b := ry
      subst ry2
      refine wpAny_bind (wpAny_holding (wpAny_truthy_bool (wpAny_bind (wpAny_letGo ?_))))
      cases b with
      | false =>
        simp only [Bool.false_eq_true, if_false]
        rcases p with ⟨r, ec, p⟩ | ⟨_, p⟩
        · have : (none : Option D) = some r := by
            have z : some (none : Option D) = some (some r) := ec
            exact Option.some.inj z
          cases this
        · exact wpAny_pure ⟨plainId_quiet F.plain_any_loop _, ih m (by omega) i' k' H' s' l' hk' G' st' ⟨e1, e2, _, us ++ [.bl false], S, μ, True.intro, rys.append (show RVs G μ S.n H' [D.bl false] [V.bl false] from ⟨_, _, rfl, rfl, rfl⟩), s1, p⟩ hR⟩
      | true =>
        simp only [if_true]
        rcases p with ⟨r, ec, p⟩ | ⟨ec, _⟩
        · have z : some (some (D.bl true)) = some (some r) := ec
          cases z
          exact wpAny_bind (wpAny_rule (wpAny_pure (hR true s' H' G' ((Post.here (W := W) s1.lnk p) _ rfl))))
        · have z : some (some (D.bl true)) = some none := ec
          cases z
    | _ =>
      exfalso
      rcases p with ⟨r, ec, _⟩ | ⟨ec, _⟩ <;> cases ec
theorem all_loop {Y : Cx} {A : Around} {bod : D → M (Option D)} {σ0 : L2.St} {Rr : Result → Shared → Prop} {H1 : Hp} (hh : A.handled = none) (hd : A.depth < recursionLimit) (ha : a ∈ ws) :
    ∀ (n i k : Nat) (H : Hp) (s : Shared), Live Y A.in1.in1 fp ws tn σ0 (StD G W Q bod (chkB false) (finB true) RpT ds μ1 S1 H1) (GtD G W Q bod (chkB false) (finB true) RpT ds μ1 S1 H1) (FinD G W Q (finB true) RpT μ1 S1 H1) a gi i n s → k < n → GSt Y fp ws σ0 H s → tn i s.heap → StD G W Q bod (chkB false) (finB true) RpT ds μ1 S1 H1 (vw ws s) i k H →
      (∀ b s' H', GSt Y fp ws σ0 H' s' → Q (.bl b) H' → Rr (.ok (.ret (.bool b))) s') → codeAny (model Y.prog Y.w) A (.builtin "all.loop" ⟨[.ref a], []⟩) Rr s := by
  intro n
  induction n using Nat.strongRecOn with
  | ind n ih =>
  intro i k H s l hk Gs st q hR
  refine (codeAny_builtin F.entry_all_loop) ?_
  rw [(Around.under_plainId F.plain_all_loop _)]
  show wpAny _ A.in1 (pyNext (.ref a) >>= _) _ _ s
  refine wpAny_bind (gen_next (B := A.in1.in1) rfl hh hd ha l hk Gs st q (fun s' H' G' f sm => ?_) fun m v s' i' k' H' y hn hk' ry G' st' gt sm l' => ?_)
  · obtain ⟨ys, us, S, μ, _, _, s1, p⟩ := f
    exact wpAny_bind (wpAny_rule (wpAny_pure (hR true s' H' G' ((Post.here (W := W) s1.lnk p) _ rfl))))
  · obtain ⟨e1, e2, ys, us, d, S, μ, rp, rys, rd, s1, p⟩ := gt
    cases d with
    | bl b =>
      have ry1 : y = .bl b := rd
      subst ry1
      have ry2 : v = Value.bool b := ry
      subst ry2
      refine wpAny_bind (wpAny_holding (wpAny_truthy_bool (wpAny_bind (wpAny_letGo ?_))))
      cases b with
      | true =>
        simp only [if_true]
        rcases p with ⟨r, ec, p⟩ | ⟨_, p⟩
        · have : (none : Option D) = some r := by
            have z : some (none : Option D) = some (some r) := ec
            exact Option.some.inj z
          cases this
        · exact wpAny_pure ⟨plainId_quiet F.plain_all_loop _, ih m (by omega) i' k' H' s' l' hk' G' st' ⟨e1, e2, _, us ++ [.bl true], S, μ, True.intro, rys.append (show RVs G μ S.n H' [D.bl true] [V.bl true] from ⟨_, _, rfl, rfl, rfl⟩), s1, p⟩ hR⟩
      | false =>
        simp only [Bool.false_eq_true, if_false]
        rcases p with ⟨r, ec, p⟩ | ⟨ec, _⟩
        · have z : some (some (D.bl false)) = some (some r) := ec
          cases z
          exact wpAny_bind (wpAny_rule (wpAny_pure (hR false s' H' G' ((Post.here (W := W) s1.lnk p) _ rfl))))
        · have z : some (some (D.bl false)) = some none := ec
          cases z
    | _ =>
      exfalso
      rcases p with ⟨r, ec, _⟩ | ⟨ec, _⟩ <;> cases ec
/-! ### the plumbing -/
theorem Stp.extN {T : List (Addr × Str)} {μ : Nat → Addr} {S : Sto} {H H2 : Hp} (L : Lnk G μ S H) (hT : G.T = Tabs T) (e : ExtN H H2) (t : Tabs T H2) : Stp G μ S H μ S H2 := by
  have g : Grow μ S.n H μ S.n H2 := ⟨.refl _ _, fun l h1 h2 => absurd h2 (by omega), fun b o q _ n => e b o q n, fun b od u q => e b _ q (fun _ z => by cases z), fun b o q n => ⟨o, e b o q n, n⟩⟩
  refine ⟨⟨L.inj, fun l o q => ?_, by rw [hT]; exact t, L.lk⟩, g⟩
  have h := L.ob l o q
  obtain ⟨w, hw, nt, _⟩ := h.hd
  exact h.mono g L.tf (by rw [e _ _ hw nt, hw])
def UseG (X : Cx) (G : Gx) (W : XK) (scope : Scope) (gpos : Pos) (vs : List Nat) (tg elt iter : Expr) (ifs : List Expr) (g : D → En → M En) (t : En → M Bool) (fe : En → M D) (chk : List D → D → Option (Option D)) (fin : List D → M D) (f : Value) : Prop :=
  ∀ (pins : List (Addr × Obj)) (σ : L2.St) (R : It → Hp → Prop) (a gi : Nat) (s5 s4 : Shared) (H4 : Hp) (genv : Env) (fp : List Addr) (it : Addr) (tn : Nat → Heap → Prop) (J : It) (Q : VK) (ds : List D) (μ1 : Nat → Addr) (S1 : Sto) (σd : En),
    GMk X pins σ tg elt iter ifs scope gpos vs R a s5 gi s4 H4 genv fp it tn J → At G σd S1 μ1 σ H4 → ItOk G J μ1 S1 H4 ds → Post G μ1 S1 H4 W (WQ G Q) (genL (bodG vs g t fe σd) chk fin [] ds S1) →
      wpAny (model X.prog X.w) X.A (call f [.ref a]) (EP X pins σ Q) X.xe s5
/-- what is known of the def in which a generator expression stands -/
structure GHost (X : Cx) (G : Gx) (T : List (Addr × Str)) (k : Nat) (c P : Addr) : Prop where
  room : Room (k + 1) X.A
  tb : TabB X.base X.mg c P
  code : X.env.code = .ref c
  tab : G.T = Tabs T
  mem : (P, X.env.qual ++ "<genexpr>") ∈ T
  uq : ∀ p ∈ T, p.1 = P → p.2 = X.env.qual ++ "<genexpr>"
  nd : X.N.Nodup
  calm : X.calm = true
structure GSc (X : Cx) (scope : Scope) (own : List (Str × Nat)) : Prop where
  ok : BlkOk X.N X.env.scope scope own
  nc : ∀ y ∈ scope.names, y.2 ≠ .cell
  co : scope.isCoroutine = false
  dot : scope.names.lookup (".0" : Str) = some NameKind.local
theorem gen_run {T : List (Addr × Str)} {k : Nat} {c P : Addr} {own : List (Str × Nat)} {fit : En → M (List D)} {f : Value} {s : Shared} {H : Hp} (Hh : GHost X G T k c P) (Sc : GSc X scope own) (hi : SI X G W tg iter fit) (hgf : ∀ v, genFold iter X.env v = pure v)
    (use : UseG X G W scope gpos (own.map (·.2)) tg elt iter ifs g t fe chk fin f) (I : Inv X pins σ H s) (h : rdE G W (genE fit (own.map (·.2)) g t fe chk fin) σ H Q) :
    wpAny (model X.prog X.w) X.A (eval (.GeneratorExp elt [⟨tg, iter, ifs, 0⟩] scope gpos) X.env) (fun v s5 => wpAny (model X.prog X.w) X.A (call f [v]) (EP X pins σ Q) X.xe s5) X.xe s := by
  obtain ⟨σd, S, μ, a0, p⟩ := h
  have p := Post.bind (k := fun ds => genL (bodG (own.map (·.2)) g t fe σd) chk fin [] ds) p
  have hw : rdI G W fit σ H (fun J H1 => Tabs T H1 ∧ ∀ H2, ExtN H1 H2 → Tabs T H2 → ∃ ds S1 μ1, At G σd S1 μ1 σ H2 ∧ ItOk G J μ1 S1 H2 ds ∧ Post G μ1 S1 H2 W (WQ G Q) (genL (bodG (own.map (·.2)) g t fe σd) chk fin [] ds S1)) :=
    ⟨σd, S, μ, a0, p.mono fun ds S1 μ1 H1 s1 q J ok => ⟨by rw [← Hh.tab]; exact s1.lnk.tab, fun H2 e2 t2 =>
      have st := Stp.extN s1.lnk Hh.tab e2 t2
      ⟨ds, S1, μ1, (a0.step s1).step st, fun μ' S' H' s' => ok μ' S' H' (st.trans s'), q.later st⟩⟩⟩
  refine wpAny_mono (gen_make (T := T) (k := k + 1) Hh.room Hh.tb Hh.code Hh.mem Hh.uq hi Sc.ok Hh.nd Sc.nc Sc.co Sc.dot hgf I hw) (fun v s5 hv => ?_) fun _ _ x => x
  obtain ⟨a, gi, s4, H4, genv, fp, it, tn, J, rfl, M⟩ := hv
  obtain ⟨ds, S1, μ1, a1, ok, q⟩ := M.R
  exact use pins σ _ a gi s5 s4 H4 genv fp it tn J Q ds μ1 S1 σd M a1 ok q
theorem se_genB {T : List (Addr × Str)} {k : Nat} {c P : Addr} {own : List (Str × Nat)} {fit : En → M (List D)} {x : Str} {id : String} {p pos : Pos} (Hh : GHost X G T k c P) (Sc : GSc X scope own) (hi : SI X G W tg iter fit) (use : UseG X G W scope gpos (own.map (·.2)) tg elt iter ifs g t fe chk fin (.builtin id))
    (hm : X.mg x = none) (hg : Gl X x := by rfl) (hv : bootBuiltins x = some (.builtin id) := by decide +kernel) (hn : x ≠ "__name__" := by decide) (hdb : (x == ("__debug__" : Str)) = false := by decide) (hgf : ∀ v, genFold iter X.env v = pure v := by intro _; rfl)
    (he : starEach [.GeneratorExp elt [⟨tg, iter, ifs, 0⟩] scope gpos] X.env = (false, eval (.GeneratorExp elt [⟨tg, iter, ifs, 0⟩] scope gpos) X.env) :: starEach [] X.env := by rfl) :
    SE X G W (.Call (.Name x p) [.GeneratorExp elt [⟨tg, iter, ifs, 0⟩] scope gpos] [] pos) (genE fit (own.map (·.2)) g t fe chk fin) := by
  refine ⟨fun pins s σ H Q I h => ?_⟩
  refine wpAny_Call_Name_kw (ld_blt I hg hm hv ?_ hn hdb)
  refine PyProof.Rows.callWith_builtin1 ?_ he (by rfl)
  rw [he]
  show wpAny _ _ (spliced ((false, eval (.GeneratorExp elt [⟨tg, iter, ifs, 0⟩] scope gpos) X.env) :: backTo pos (starEach [] X.env))) _ _ s
  exact Calls.spliced_cons (wpAny_mono (gen_run Hh Sc hi hgf use I h) (fun v s5 hv => Calls.spliced_nil hv) fun _ _ x => x)
theorem near_in2 (hd : X.A.handled = none) : Near X X.A.in1.in1 := ⟨hd, rfl, Nat.le_succ _, by show X.A.units + 1 + 1 ≤ _; omega⟩
theorem use_any {k : Nat} (hr : Room k X.A) (hc : X.calm = true) (hco : scope.isCoroutine = false) (pc : GPc X G scope vs tg elt ifs g t fe) : UseG X G W scope gpos vs tg elt iter ifs g t fe (chkB true) (finB false) (.builtin "any") := by
  intro pins σ R a gi s5 s4 H4 genv fp it tn J Q ds μ1 S1 σd M a1 ok q
  have hB := near_in2 (X := X) hr.hd
  refine (call_function_tree F.kind_any F.plain_any F.entry_any (F.args_any1 _)) ?_
  unfold Builtin.«any»
  refine wpAny_bind (m := oneArg "any" _) (wpAny_pure ?_)
  refine wpAny_bind (wpAny_pyIter_gen M.gen ?_)
  have Gs : GSt (gcx X X.A.in1.in1 s4 H4 genv fp) fp [a] (L2.wipe σ vs) H4 s5 := M.gst hB (h6 := s5.heap) (t6 := s5.toks) (fun _ _ e => e) fun b hb => .inl (List.mem_singleton.mp hb)
  exact wpAny_pure ⟨plainId_quiet F.plain_any_loop _, any_loop (ws := [a]) (Y := gcx X X.A.in1.in1 s4 H4 genv fp) (A := X.A) hr.hd (by have := hr.dp; omega) List.mem_cons_self (ds.length + 1) 0 ds.length H4 s5 (M.live hB hc hco pc a1 ok rfl fun _ e => e) (Nat.lt_succ_self _) Gs M.st
    (StD.first a1.lnk True.intro q) fun b s' H' G' hq => ⟨.bl b, H', M.back G', rfl, hq⟩⟩
theorem use_all {k : Nat} (hr : Room k X.A) (hc : X.calm = true) (hco : scope.isCoroutine = false) (pc : GPc X G scope vs tg elt ifs g t fe) : UseG X G W scope gpos vs tg elt iter ifs g t fe (chkB false) (finB true) (.builtin "all") := by
  intro pins σ R a gi s5 s4 H4 genv fp it tn J Q ds μ1 S1 σd M a1 ok q
  have hB := near_in2 (X := X) hr.hd
  refine (call_function_tree F.kind_all F.plain_all F.entry_all (F.args_all1 _)) ?_
  unfold Builtin.«all»
  refine wpAny_bind (m := oneArg "all" _) (wpAny_pure ?_)
  refine wpAny_bind (wpAny_pyIter_gen M.gen ?_)
  have Gs : GSt (gcx X X.A.in1.in1 s4 H4 genv fp) fp [a] (L2.wipe σ vs) H4 s5 := M.gst hB (h6 := s5.heap) (t6 := s5.toks) (fun _ _ e => e) fun b hb => .inl (List.mem_singleton.mp hb)
  exact wpAny_pure ⟨plainId_quiet F.plain_all_loop _, all_loop (ws := [a]) (Y := gcx X X.A.in1.in1 s4 H4 genv fp) (A := X.A) hr.hd (by have := hr.dp; omega) List.mem_cons_self (ds.length + 1) 0 ds.length H4 s5 (M.live hB hc hco pc a1 ok rfl fun _ e => e) (Nat.lt_succ_self _) Gs M.st
    (StD.first a1.lnk True.intro q) fun b s' H' G' hq => ⟨.bl b, H', M.back G', rfl, hq⟩⟩
end
end Fd

set_option Elab.async false
set_option linter.all false
set_option maxRecDepth 100000
set_option maxHeartbeats 1000000
namespace Fd
open PySem PySem.Spec PyProof.Rows L2 GenW LamX
/-! ### consumers that keep an object of their own -/
def dI : D → Int
  | .int i => i
  | _ => 0
def vI : V → Int
  | .int i => i
  | _ => 0
theorem vI_of {G : Gx} {μ : Nat → Addr} {n : Nat} {H : Hp} {d : D} {v : V} (r : RV G μ n H d v) : vI v = dI d := by
  cases d with
  | int i => rw [show v = .int i from r]; rfl
  | non => rw [show v = .non from r]; rfl
  | bl b => rw [show v = .bl b from r]; rfl
  | str b => rw [show v = .str b from r]; rfl
  | tup _ => obtain ⟨a, _, e, _⟩ := r; rw [e]; rfl
  | kt _ => obtain ⟨a, _, e, _⟩ := r; rw [e]; rfl
  | ft _ => obtain ⟨a, _, _, e, _⟩ := r; rw [e]; rfl
  | lst _ => obtain ⟨a, _, e, _⟩ := r; rw [e]; rfl
  | dct _ _ => obtain ⟨a, _, _, _, e, _⟩ := r; rw [e]; rfl
  | ref _ => obtain ⟨_, e⟩ := r; rw [e]; rfl
  | kl _ => obtain ⟨a, _, e, _⟩ := r; rw [e]; rfl
  | lam _ => obtain ⟨a, _, _, _, e, _⟩ := r; rw [e]; rfl
theorem vIs_of {G : Gx} {μ : Nat → Addr} {n : Nat} {H : Hp} : ∀ {ds : List D} {us : List V}, RVs G μ n H ds us → us.map vI = ds.map dI
  | [], _, h => by
    have h : _ = _ := h
    subst h; rfl
  | d :: ds, _, ⟨v, r, e, h1, h2⟩ => by
    subst e
    rw [List.map_cons, List.map_cons, vI_of h1, vIs_of h2]
/-- within a C long -/
def inLong (i : Int) : Bool := decide (-(2 ^ 63) ≤ i) && decide (i < 2 ^ 63)
def chkSum : List D → D → Option (Option D) := fun ys d => match d with
  | .int x => if (inLong x && inLong ((ys.map dI).sum + x)) = true then some none else none
  | _ => none
def finSum : List D → M D := fun ys => M.pure (.int (ys.map dI).sum)
/-- the smallest (largest) so far -/
def best (lt : Int → Int → Bool) : List Int → Option Int := fun l => l.foldl (fun o x => match o with
  | none => some x
  | some m => if lt x m = true then some x else some m) none
theorem best_snoc (lt : Int → Int → Bool) (l : List Int) (x : Int) : best lt (l ++ [x]) = match best lt l with
  | none => some x
  | some m => if lt x m = true then some x else some m := by
  unfold best
  rw [List.foldl_append]; rfl
def chkInt : List D → D → Option (Option D) := fun _ d => match d with
  | .int _ => some none
  | _ => none
def finBest (lt : Int → Int → Bool) : List D → M D := fun ys => match best lt (ys.map dI) with
  | some m => M.pure (.int m)
  | none => M.stk
def ltB : Int → Int → Bool := fun x m => decide (x < m)
def gtB : Int → Int → Bool := fun x m => decide (x > m)
abbrev lo (acc : Array Value) (c : Nat) : Obj := { cls := .type "list", dict := none, data := .seq acc c, slots := #[] }
def RpSum (S : Addr) : List V → Vw → Prop := fun us w => ∃ t c, w S = some (lo #[.int (us.map vI).sum t] c)
def RpBest (lt : Int → Int → Bool) (S : Addr) : List V → Vw → Prop := fun us w => match best lt (us.map vI) with
  | none => ∃ c, w S = some (lo #[] c)
  | some m => ∃ t c, w S = some (lo #[.int m t, .int m t] c)
def RpLst (S : Addr) : List V → Vw → Prop := fun us w => ∃ acc c, w S = some (lo acc c) ∧ us.length ≤ sizeLine ∧ Vals us acc.toList
theorem lo_inj {x y : Int} {t t' : Tok} {c c' : Nat} (h : some (lo #[Value.int x t] c) = some (lo #[Value.int y t'] c')) : x = y := by
  have h := congrArg (fun o : Option Obj => match o with
    | some { data := .seq acc _, .. } => (match acc.toList with
      | Value.int z _ :: _ => z
      | _ => 0)
    | _ => 0) h
  exact h
theorem vw_at {ws : List Addr} {s : Shared} {b : Addr} (hb : b ∈ ws) : vw ws s b = s.heap.get? b := if_pos hb
section
variable {X : Cx} {G : Gx} {W : XK} {fp : List Addr} {tn : Nat → Heap → Prop} {Q : VK} {ds : List D} {μ1 : Nat → Addr} {S1 : Sto} {H1 : Hp} {a gi : Nat} {S : Addr} {Y : Cx} {A : Around} {bod : D → M (Option D)} {σ0 : L2.St} {Rr : Result → Shared → Prop}
theorem sum_loop (hpn : Y.pn = []) (hh : A.handled = none) (hd : A.depth < recursionLimit) (hSa : S ≠ a) :
    ∀ (n i k : Nat) (H : Hp) (s : Shared), Live Y A.in1.in1 fp [a, S] tn σ0 (StD G W Q bod chkSum finSum (RpSum S) ds μ1 S1 H1) (GtD G W Q bod chkSum finSum (RpSum S) ds μ1 S1 H1) (FinD G W Q finSum (RpSum S) μ1 S1 H1) a gi i n s → k < n → GSt Y fp [a, S] σ0 H s → tn i s.heap → (∀ i h h', tn i h → (∀ b ∈ fp, ∀ o, h.get? b = some o → h'.get? b = some o) → tn i h') → StD G W Q bod chkSum finSum (RpSum S) ds μ1 S1 H1 (vw [a, S] s) i k H →
      (∀ m t s' H', GSt Y fp [a, S] σ0 H' s' → Q (.int m) H' → Rr (.ok (.ret (.int m t))) s') → codeAny (model Y.prog Y.w) A (.builtin "sum.loop" ⟨[.ref a, .ref S, rawInt 0, rawInt 0], []⟩) Rr s := by
  have hSm : S ∈ [a, S] := by simp
  intro n
  induction n using Nat.strongRecOn with
  | ind n ih =>
  intro i k H s l hk Gs st keep q hR
  refine (codeAny_builtin F.entry_sum_loop) ?_
  rw [(Around.under_plainId F.plain_sum_loop _)]
  show wpAny _ A.in1 (seqItems? (.ref S) >>= _) _ _ s
  obtain ⟨q1, q2, ys0, us0, S0, μ0, ⟨t0, c0, e0⟩, q3⟩ := id q
  rw [vw_at hSm] at e0
  refine wpAny_bind ((wpAny_seqItems e0 rfl) ?_)
  show wpAny _ A.in1 (tryCatch (pyNext (.ref a)) _ >>= _) _ _ s
  refine wpAny_bind (wpAny_tryCatch (gen_next (B := A.in1.in1) rfl hh hd (by simp) l hk Gs st q (fun s' H' G' f sm => ?_) fun m v s' i' k' H' y hn hk' ry G' st' gt sm l' => ?_))
  · obtain ⟨ys, us, S2, μ, ⟨t, c, e⟩, rys, s1, p⟩ := f
    rw [vw_at hSm, sm S hSm _ e0] at e
    refine wpAny_pure (hR _ _ s' H' G' ?_)
    have hz := (Post.here (W := W) s1.lnk p) (.int (us.map vI).sum) (by show _ = _; rw [vIs_of rys])
    rw [← lo_inj e] at hz
    exact hz
  · obtain ⟨e1, e2, ys, us, d, S2, μ, ⟨t, c, e⟩, rys, rd, s1, p⟩ := gt
    rw [vw_at hSm] at e
    have eS := e
    rw [sm S hSm _ e0] at e
    have hsum := lo_inj e
    rcases p with ⟨r, ec, p⟩ | ⟨ec, p⟩
    · unfold chkSum at ec
      cases d <;> first | (cases ec; done) | skip
      dsimp only at ec
      split at ec <;> cases ec
    cases d with
    | int x =>
      have ry1 : y = .int x := rd
      subst ry1
      obtain ⟨tx, rfl⟩ := (show ∃ t, v = Value.int x t from ry)
      have hc : (inLong x && inLong ((ys.map dI).sum + x)) = true := by
        unfold chkSum at ec
        dsimp only at ec
        split at ec
        · assumption
        · cases ec
      have hc' : ((decide (-(2 ^ 63) ≤ x) && decide (x < 2 ^ 63)) && (decide (-(2 ^ 63) ≤ (us0.map vI).sum + x) && decide ((us0.map vI).sum + x < 2 ^ 63))) = true := by
        rw [hsum, vIs_of rys]
        exact hc
      show wpAny _ A.in1 (if (_ : Bool) = true then (mkInt ((us0.map vI).sum + x) >>= _) else _) _ _ _
      split
      · refine wpAny_bind (wpAny_mkInt ?_)
        show wpAny _ A.in1 (updateSeq S (fun _ => #[.int ((us0.map vI).sum + x) s'.toks]) >>= _) _ _ _
        have eS0 := sm S hSm _ e0
        have upS := Heap.get?_update_self (Obj.mapSeq (fun _ => (#[.int ((us0.map vI).sum + x) s'.toks] : Array Value))) eS0 rfl
        have upX : ∃ c, (s'.heap.update S (Obj.mapSeq (fun _ => (#[.int ((us0.map vI).sum + x) s'.toks] : Array Value)))).get? S = some (lo #[.int ((us0.map vI).sum + x) s'.toks] c) := ⟨_, upS⟩
        obtain ⟨c9, upX⟩ := upX
        have oth : ∀ b o, b ≠ S → s'.heap.get? b = some o → (s'.heap.update S (Obj.mapSeq (fun _ => (#[.int ((us0.map vI).sum + x) s'.toks] : Array Value)))).get? b = some o := fun b o hb e => (Heap.get?_update_other _ _ (Ne.symm hb)).trans e
        refine wpAny_bind (wpAny_updateSeq eS0 rfl ?_)
        refine wpAny_pure ⟨plainId_quiet F.plain_sum_loop _, ?_⟩
        have G2 : GSt Y fp [a, S] σ0 H' { s' with heap := s'.heap.update S (Obj.mapSeq (fun _ => (#[.int ((us0.map vI).sum + x) s'.toks] : Array Value))), toks := s'.toks + 1 } := G'.turn hpn hSm oth ⟨_, upS, fun v e => by cases e⟩
        refine ih m (by omega) i' k' H' _ (l'.mono' rfl fun o e => oth a o (Ne.symm hSa) e) hk' G2 (keep _ _ _ st' fun b hb o e => oth b o (fun z => (G'.wsn S hSm).2.2.2.1 (by rw [← z]; exact hb)) e) keep ⟨e1, e2, _, us ++ [.int x], S2, μ, ⟨s'.toks, c9, ?_⟩, rys.append (show RVs G μ S2.n H' [D.int x] [V.int x] from ⟨_, _, rfl, rfl, rfl⟩), s1, p⟩ hR
        rw [vw_at hSm]
        have e9 : ((us ++ [V.int x]).map vI).sum = (us0.map vI).sum + x := by
          rw [List.map_append, List.sum_append, hsum]
          simp [vI]
        rw [e9]
        exact upX
      · rename_i hneg
        exact absurd hc' hneg
    | _ => cases ec
end
end Fd

set_option Elab.async false
set_option linter.all false
set_option maxRecDepth 100000
set_option maxHeartbeats 1000000
namespace Fd
open PySem PySem.Spec PyProof.Rows L2 GenW LamX
theorem lo_len {u v : Value} {c c' : Nat} (h : some (lo #[] c) = some (lo #[u, v] c')) : False := by
  have h := congrArg (fun o : Option Obj => match o with
    | some { data := .seq acc _, .. } => acc.toList.length
    | _ => 0) h
  have h : (0 : Nat) = 2 := h
  cases h
theorem lo_inj2 {x y : Int} {t t' u u' : Tok} {c c' : Nat} (h : some (lo #[Value.int x t, Value.int x u] c) = some (lo #[Value.int y t', Value.int y u'] c')) : x = y := by
  have h := congrArg (fun o : Option Obj => match o with
    | some { data := .seq acc _, .. } => (match acc.toList with
      | Value.int z _ :: _ => z
      | _ => 0)
    | _ => 0) h
  exact h
theorem cmpLt {prog : Program} {w : World} {A : Around} {E : Value → Shared → Prop} {s : Shared} {Q : Value → Shared → Prop} (x y : Int) (t u : Tok) (h : Q (.bool (decide (x < y))) s) : wpAny (model prog w) A (richCompare .Lt (.int x t) (.int y u)) Q E s :=
  CmpOf.ints_lt (P := fun i v => ∃ t, v = .int (if i = 0 then x else y) t) (fun i => if i = 0 then x else y) (fun _ _ h => h) 0 1 _ _ s Q E ⟨t, rfl⟩ ⟨u, rfl⟩ h
theorem cmpGt {prog : Program} {w : World} {A : Around} {E : Value → Shared → Prop} {s : Shared} {Q : Value → Shared → Prop} (x y : Int) (t u : Tok) (h : Q (.bool (decide (x > y))) s) : wpAny (model prog w) A (richCompare .Gt (.int x t) (.int y u)) Q E s :=
  CmpOf.ints_gt (P := fun i v => ∃ t, v = .int (if i = 0 then x else y) t) (fun i => if i = 0 then x else y) (fun _ _ h => h) 0 1 _ _ s Q E ⟨t, rfl⟩ ⟨u, rfl⟩ h
section
variable {X : Cx} {G : Gx} {W : XK} {fp : List Addr} {tn : Nat → Heap → Prop} {Q : VK} {ds : List D} {μ1 : Nat → Addr} {S1 : Sto} {H1 : Hp} {a gi : Nat} {S : Addr} {Y : Cx} {A : Around} {bod : D → M (Option D)} {σ0 : L2.St} {Rr : Result → Shared → Prop}
theorem min_loop (hpn : Y.pn = []) (hh : A.handled = none) (hd : A.depth < recursionLimit) (hSa : S ≠ a) :
    ∀ (n i k : Nat) (H : Hp) (s : Shared), Live Y A.in1.in1 fp [a, S] tn σ0 (StD G W Q bod chkInt (finBest ltB) (RpBest ltB S) ds μ1 S1 H1) (GtD G W Q bod chkInt (finBest ltB) (RpBest ltB S) ds μ1 S1 H1) (FinD G W Q (finBest ltB) (RpBest ltB S) μ1 S1 H1) a gi i n s → k < n → GSt Y fp [a, S] σ0 H s → tn i s.heap → (∀ i h h', tn i h → (∀ b ∈ fp, ∀ o, h.get? b = some o → h'.get? b = some o) → tn i h') → StD G W Q bod chkInt (finBest ltB) (RpBest ltB S) ds μ1 S1 H1 (vw [a, S] s) i k H →
      (∀ m t s' H', GSt Y fp [a, S] σ0 H' s' → Q (.int m) H' → Rr (.ok (.ret (.int m t))) s') → codeAny (model Y.prog Y.w) A (.builtin "min.loop" ⟨[.ref a, .none, .ref S], []⟩) Rr s := by
  have hSm : S ∈ [a, S] := by simp
  have hname : (toString "min" ++ toString ".loop" : String) = "min.loop" := by decide
  intro n
  induction n using Nat.strongRecOn with
  | ind n ih =>
  intro i k H s l hk Gs st keep q hR
  refine (codeAny_builtin F.entry_min_loop) ?_
  rw [(Around.under_plainId F.plain_min_loop _)]
  show wpAny _ A.in1 (seqItems? (.ref S) >>= _) _ _ s
  obtain ⟨q1, q2, ys0, us0, S0, μ0, rp0, q3⟩ := id q
  unfold RpBest at rp0
  rw [vw_at hSm] at rp0
  -- the next state, whatever the object now is
  have go : ∀ (m : Nat) (i' k' : Nat) (H' : Hp) (s' : Shared) (x : Int) (tx : Tok) (f : Obj → Obj) (ys : List D) (us : List V) (S2 : Sto) (μ : Nat → Addr), n = m + 1 → k' < m → GSt Y fp [a, S] σ0 H' s' → tn i' s'.heap → Live Y A.in1.in1 fp [a, S] tn σ0 (StD G W Q bod chkInt (finBest ltB) (RpBest ltB S) ds μ1 S1 H1) (GtD G W Q bod chkInt (finBest ltB) (RpBest ltB S) ds μ1 S1 H1) (FinD G W Q (finBest ltB) (RpBest ltB S) μ1 S1 H1) a gi i' m s' →
      k' = ds.length - i' → i' ≤ ds.length → RVs G μ S2.n H' ys us → Stp G μ1 S1 H1 μ S2 H' → Post G μ S2 H' W (WQ G Q) (genL bod chkInt (finBest ltB) (ys ++ [.int x]) (ds.drop i') S2) →
      (∃ mm t c, best ltB ((us ++ [V.int x]).map vI) = some mm ∧ (s'.heap.update S f).get? S = some (lo #[Value.int mm t, Value.int mm t] c)) → codeAny (model Y.prog Y.w) A (.builtin "min.loop" ⟨[.ref a, .none, .ref S], []⟩) Rr { s' with heap := s'.heap.update S f } := by
    rintro m i' k' H' s' x tx f ys us S2 μ hn hk' G' st' l' e1 e2 rys s1 p ⟨mm, t, c, eb, eo⟩
    have oth : ∀ b o, b ≠ S → s'.heap.get? b = some o → (s'.heap.update S f).get? b = some o := fun b o hb e => (Heap.get?_update_other _ _ (Ne.symm hb)).trans e
    have G2 : GSt Y fp [a, S] σ0 H' { s' with heap := s'.heap.update S f } := G'.turn (t' := s'.toks) hpn hSm oth ⟨_, eo, fun v e => by cases e⟩
    refine ih m (by omega) i' k' H' _ (l'.mono' rfl fun o e => oth a o (Ne.symm hSa) e) hk' G2 (keep _ _ _ st' fun b hb o e => oth b o (fun z => (G'.wsn S hSm).2.2.2.1 (by rw [← z]; exact hb)) e) keep ⟨e1, e2, _, us ++ [.int x], S2, μ, ?_, rys.append (show RVs G μ S2.n H' [D.int x] [V.int x] from ⟨_, _, rfl, rfl, rfl⟩), s1, p⟩ hR
    unfold RpBest
    rw [eb, vw_at hSm]
    exact ⟨t, c, eo⟩
  cases hb : best ltB (us0.map vI) with
  | none =>
    rw [hb] at rp0
    obtain ⟨c0, e0⟩ := rp0
    refine wpAny_bind ((wpAny_seqItems e0 rfl) ?_)
    show wpAny _ A.in1 (tryCatch (pyNext (.ref a)) _ >>= _) _ _ s
    refine wpAny_bind (wpAny_tryCatch (gen_next (B := A.in1.in1) rfl hh hd (by simp) l hk Gs st q (fun s' H' G' f sm => ?_) fun m v s' i' k' H' y hn hk' ry G' st' gt sm l' => ?_))
    · exfalso
      obtain ⟨ys, us, S2, μ, rp, rys, s1, p⟩ := f
      unfold RpBest at rp
      rw [vw_at hSm, sm S hSm _ e0] at rp
      unfold finBest at p
      rw [← vIs_of rys] at p
      cases h2 : best ltB (us.map vI) with
      | none => rw [h2] at p; exact p.elim
      | some mm =>
        rw [h2] at rp
        obtain ⟨t, c, e⟩ := rp
        exact lo_len e
    · obtain ⟨e1, e2, ys, us, d, S2, μ, rp, rys, rd, s1, p⟩ := gt
      unfold RpBest at rp
      have eS0 := sm S hSm _ e0
      rw [vw_at hSm, eS0] at rp
      have hx : ∃ x, d = .int x := by
        cases d <;> first | exact ⟨_, rfl⟩ | (rcases p with ⟨r, h, _⟩ | ⟨h, _⟩ <;> cases h)
      obtain ⟨x, rfl⟩ := hx
      have p : Post G μ S2 H' W (WQ G Q) (genL bod chkInt (finBest ltB) (ys ++ [.int x]) (ds.drop i') S2) := by
        rcases p with ⟨r, h, _⟩ | ⟨_, p⟩
        · cases h
        · exact p
      have ry1 : y = .int x := rd
      subst ry1
      obtain ⟨tx, rfl⟩ := (show ∃ t, v = Value.int x t from ry)
      have hb2 : best ltB (us.map vI) = none := by
        cases h2 : best ltB (us.map vI) with
        | none => rfl
        | some mm =>
          rw [h2] at rp
          obtain ⟨t, c, e⟩ := rp
          exact (lo_len e).elim
      show wpAny _ A.in1 (updateSeq S (fun _ => #[.int x tx, .int x tx]) >>= _) _ _ _
      refine wpAny_bind (wpAny_updateSeq eS0 rfl ?_)
      rw [hname]
      refine wpAny_pure ⟨plainId_quiet F.plain_min_loop _, go m i' k' H' s' x tx _ ys us S2 μ hn hk' G' st' l' e1 e2 rys s1 p ⟨x, tx, _, ?_, Heap.get?_update_self _ eS0 rfl⟩⟩
      rw [List.map_append]
      show best ltB (us.map vI ++ [x]) = _
      rw [best_snoc, hb2]
  | some m0 =>
    rw [hb] at rp0
    obtain ⟨t0, c0, e0⟩ := rp0
    refine wpAny_bind ((wpAny_seqItems e0 rfl) ?_)
    show wpAny _ A.in1 (tryCatch (pyNext (.ref a)) _ >>= _) _ _ s
    refine wpAny_bind (wpAny_tryCatch (gen_next (B := A.in1.in1) rfl hh hd (by simp) l hk Gs st q (fun s' H' G' f sm => ?_) fun m v s' i' k' H' y hn hk' ry G' st' gt sm l' => ?_))
    · obtain ⟨ys, us, S2, μ, rp, rys, s1, p⟩ := f
      have eS0 := sm S hSm _ e0
      unfold RpBest at rp
      rw [vw_at hSm, eS0] at rp
      show wpAny _ A.in1 (updateSeq S (fun _ => #[]) >>= _) _ _ _
      refine wpAny_bind (wpAny_updateSeq eS0 rfl (wpAny_bind (wpAny_letGo (wpAny_pure ?_))))
      have oth : ∀ b o, b ≠ S → s'.heap.get? b = some o → (s'.heap.update S (Obj.mapSeq (fun _ => (#[] : Array Value)))).get? b = some o := fun b o hb e => (Heap.get?_update_other _ _ (Ne.symm hb)).trans e
      refine hR m0 t0 _ H' (G'.turn (t' := s'.toks) hpn hSm oth ⟨_, Heap.get?_update_self _ eS0 rfl, fun v e => by cases e⟩) ?_
      unfold finBest at p
      rw [← vIs_of rys] at p
      cases h2 : best ltB (us.map vI) with
      | none =>
        rw [h2] at rp
        obtain ⟨c, e⟩ := rp
        exact (lo_len e.symm).elim
      | some mm =>
        rw [h2] at rp p
        obtain ⟨t, c, e⟩ := rp
        rw [lo_inj2 e]
        exact (Post.here (W := W) s1.lnk p) _ rfl
    · obtain ⟨e1, e2, ys, us, d, S2, μ, rp, rys, rd, s1, p⟩ := gt
      unfold RpBest at rp
      have eS0 := sm S hSm _ e0
      rw [vw_at hSm, eS0] at rp
      have hx : ∃ x, d = .int x := by
        cases d <;> first | exact ⟨_, rfl⟩ | (rcases p with ⟨r, h, _⟩ | ⟨h, _⟩ <;> cases h)
      obtain ⟨x, rfl⟩ := hx
      have p : Post G μ S2 H' W (WQ G Q) (genL bod chkInt (finBest ltB) (ys ++ [.int x]) (ds.drop i') S2) := by
        rcases p with ⟨r, h, _⟩ | ⟨_, p⟩
        · cases h
        · exact p
      have ry1 : y = .int x := rd
      subst ry1
      obtain ⟨tx, rfl⟩ := (show ∃ t, v = Value.int x t from ry)
      have hb2 : best ltB (us.map vI) = some m0 := by
        cases h2 : best ltB (us.map vI) with
        | none =>
          rw [h2] at rp
          obtain ⟨c, e⟩ := rp
          exact (lo_len e.symm).elim
        | some mm =>
          rw [h2] at rp
          obtain ⟨t, c, e⟩ := rp
          rw [lo_inj2 e]
      have hb3 : best ltB ((us ++ [V.int x]).map vI) = if ltB x m0 = true then some x else some m0 := by
        rw [List.map_append]
        show best ltB (us.map vI ++ [x]) = _
        rw [best_snoc, hb2]
      show wpAny _ A.in1 (tryCatch (holding [.int x tx, .int x tx] (richCompare .Lt (.int x tx) (.int m0 t0) >>= _)) _ >>= _) _ _ _
      refine wpAny_bind (wpAny_tryCatch (wpAny_holding (wpAny_bind (cmpLt x m0 tx t0 ?_))))
      refine wpAny_bind (wpAny_holding (wpAny_truthy_bool ?_))
      refine wpAny_bind (wpAny_letGo (wpAny_pure ?_))
      cases hbt : ltB x m0 with
      | true =>
        rw [hbt] at hb3
        have hbt' : decide (x < m0) = true := hbt
        simp only [hbt', if_true]
        refine wpAny_bind ?_
        refine wpAny_updateSeq eS0 rfl (wpAny_bind (wpAny_letGo ?_))
        rw [hname]
        exact wpAny_pure ⟨plainId_quiet F.plain_min_loop _, go m i' k' H' s' x tx _ ys us S2 μ hn hk' G' st' l' e1 e2 rys s1 p ⟨x, tx, _, hb3, Heap.get?_update_self _ eS0 rfl⟩⟩
      | false =>
        rw [hbt] at hb3
        have hbt' : decide (x < m0) = false := hbt
        simp only [hbt', Bool.false_eq_true, if_false]
        refine wpAny_bind (wpAny_letGo ?_)
        rw [hname]
        refine wpAny_pure ⟨plainId_quiet F.plain_min_loop _, ih m (by omega) i' k' H' s' l' hk' G' st' keep ⟨e1, e2, _, us ++ [.int x], S2, μ, ?_, rys.append (show RVs G μ S2.n H' [D.int x] [V.int x] from ⟨_, _, rfl, rfl, rfl⟩), s1, p⟩ hR⟩
        unfold RpBest
        rw [hb3]
        show ∃ t c, _
        rw [vw_at hSm, eS0]
        exact ⟨t0, c0, rfl⟩
theorem max_loop (hpn : Y.pn = []) (hh : A.handled = none) (hd : A.depth < recursionLimit) (hSa : S ≠ a) :
    ∀ (n i k : Nat) (H : Hp) (s : Shared), Live Y A.in1.in1 fp [a, S] tn σ0 (StD G W Q bod chkInt (finBest gtB) (RpBest gtB S) ds μ1 S1 H1) (GtD G W Q bod chkInt (finBest gtB) (RpBest gtB S) ds μ1 S1 H1) (FinD G W Q (finBest gtB) (RpBest gtB S) μ1 S1 H1) a gi i n s → k < n → GSt Y fp [a, S] σ0 H s → tn i s.heap → (∀ i h h', tn i h → (∀ b ∈ fp, ∀ o, h.get? b = some o → h'.get? b = some o) → tn i h') → StD G W Q bod chkInt (finBest gtB) (RpBest gtB S) ds μ1 S1 H1 (vw [a, S] s) i k H →
      (∀ m t s' H', GSt Y fp [a, S] σ0 H' s' → Q (.int m) H' → Rr (.ok (.ret (.int m t))) s') → codeAny (model Y.prog Y.w) A (.builtin "max.loop" ⟨[.ref a, .none, .ref S], []⟩) Rr s := by
  have hSm : S ∈ [a, S] := by simp
  have hname : (toString "max" ++ toString ".loop" : String) = "max.loop" := by decide
  intro n
  induction n using Nat.strongRecOn with
  | ind n ih =>
  intro i k H s l hk Gs st keep q hR
  refine (codeAny_builtin F.entry_max_loop) ?_
  rw [(Around.under_plainId F.plain_max_loop _)]
  show wpAny _ A.in1 (seqItems? (.ref S) >>= _) _ _ s
  obtain ⟨q1, q2, ys0, us0, S0, μ0, rp0, q3⟩ := id q
  unfold RpBest at rp0
  rw [vw_at hSm] at rp0
  -- the next state, whatever the object now is
  have go : ∀ (m : Nat) (i' k' : Nat) (H' : Hp) (s' : Shared) (x : Int) (tx : Tok) (f : Obj → Obj) (ys : List D) (us : List V) (S2 : Sto) (μ : Nat → Addr), n = m + 1 → k' < m → GSt Y fp [a, S] σ0 H' s' → tn i' s'.heap → Live Y A.in1.in1 fp [a, S] tn σ0 (StD G W Q bod chkInt (finBest gtB) (RpBest gtB S) ds μ1 S1 H1) (GtD G W Q bod chkInt (finBest gtB) (RpBest gtB S) ds μ1 S1 H1) (FinD G W Q (finBest gtB) (RpBest gtB S) μ1 S1 H1) a gi i' m s' →
      k' = ds.length - i' → i' ≤ ds.length → RVs G μ S2.n H' ys us → Stp G μ1 S1 H1 μ S2 H' → Post G μ S2 H' W (WQ G Q) (genL bod chkInt (finBest gtB) (ys ++ [.int x]) (ds.drop i') S2) →
      (∃ mm t c, best gtB ((us ++ [V.int x]).map vI) = some mm ∧ (s'.heap.update S f).get? S = some (lo #[Value.int mm t, Value.int mm t] c)) → codeAny (model Y.prog Y.w) A (.builtin "max.loop" ⟨[.ref a, .none, .ref S], []⟩) Rr { s' with heap := s'.heap.update S f } := by
    rintro m i' k' H' s' x tx f ys us S2 μ hn hk' G' st' l' e1 e2 rys s1 p ⟨mm, t, c, eb, eo⟩
    have oth : ∀ b o, b ≠ S → s'.heap.get? b = some o → (s'.heap.update S f).get? b = some o := fun b o hb e => (Heap.get?_update_other _ _ (Ne.symm hb)).trans e
    have G2 : GSt Y fp [a, S] σ0 H' { s' with heap := s'.heap.update S f } := G'.turn (t' := s'.toks) hpn hSm oth ⟨_, eo, fun v e => by cases e⟩
    refine ih m (by omega) i' k' H' _ (l'.mono' rfl fun o e => oth a o (Ne.symm hSa) e) hk' G2 (keep _ _ _ st' fun b hb o e => oth b o (fun z => (G'.wsn S hSm).2.2.2.1 (by rw [← z]; exact hb)) e) keep ⟨e1, e2, _, us ++ [.int x], S2, μ, ?_, rys.append (show RVs G μ S2.n H' [D.int x] [V.int x] from ⟨_, _, rfl, rfl, rfl⟩), s1, p⟩ hR
    unfold RpBest
    rw [eb, vw_at hSm]
    exact ⟨t, c, eo⟩
  cases hb : best gtB (us0.map vI) with
  | none =>
    rw [hb] at rp0
    obtain ⟨c0, e0⟩ := rp0
    refine wpAny_bind ((wpAny_seqItems e0 rfl) ?_)
    show wpAny _ A.in1 (tryCatch (pyNext (.ref a)) _ >>= _) _ _ s
    refine wpAny_bind (wpAny_tryCatch (gen_next (B := A.in1.in1) rfl hh hd (by simp) l hk Gs st q (fun s' H' G' f sm => ?_) fun m v s' i' k' H' y hn hk' ry G' st' gt sm l' => ?_))
    · exfalso
      obtain ⟨ys, us, S2, μ, rp, rys, s1, p⟩ := f
      unfold RpBest at rp
      rw [vw_at hSm, sm S hSm _ e0] at rp
      unfold finBest at p
      rw [← vIs_of rys] at p
      cases h2 : best gtB (us.map vI) with
      | none => rw [h2] at p; exact p.elim
      | some mm =>
        rw [h2] at rp
        obtain ⟨t, c, e⟩ := rp
        exact lo_len e
    · obtain ⟨e1, e2, ys, us, d, S2, μ, rp, rys, rd, s1, p⟩ := gt
      unfold RpBest at rp
      have eS0 := sm S hSm _ e0
      rw [vw_at hSm, eS0] at rp
      have hx : ∃ x, d = .int x := by
        cases d <;> first | exact ⟨_, rfl⟩ | (rcases p with ⟨r, h, _⟩ | ⟨h, _⟩ <;> cases h)
      obtain ⟨x, rfl⟩ := hx
      have p : Post G μ S2 H' W (WQ G Q) (genL bod chkInt (finBest gtB) (ys ++ [.int x]) (ds.drop i') S2) := by
        rcases p with ⟨r, h, _⟩ | ⟨_, p⟩
        · cases h
        · exact p
      have ry1 : y = .int x := rd
      subst ry1
      obtain ⟨tx, rfl⟩ := (show ∃ t, v = Value.int x t from ry)
      have hb2 : best gtB (us.map vI) = none := by
        cases h2 : best gtB (us.map vI) with
        | none => rfl
        | some mm =>
          rw [h2] at rp
          obtain ⟨t, c, e⟩ := rp
          exact (lo_len e).elim
      show wpAny _ A.in1 (updateSeq S (fun _ => #[.int x tx, .int x tx]) >>= _) _ _ _
      refine wpAny_bind (wpAny_updateSeq eS0 rfl ?_)
      rw [hname]
      refine wpAny_pure ⟨plainId_quiet F.plain_max_loop _, go m i' k' H' s' x tx _ ys us S2 μ hn hk' G' st' l' e1 e2 rys s1 p ⟨x, tx, _, ?_, Heap.get?_update_self _ eS0 rfl⟩⟩
      rw [List.map_append]
      show best gtB (us.map vI ++ [x]) = _
      rw [best_snoc, hb2]
  | some m0 =>
    rw [hb] at rp0
    obtain ⟨t0, c0, e0⟩ := rp0
    refine wpAny_bind ((wpAny_seqItems e0 rfl) ?_)
    show wpAny _ A.in1 (tryCatch (pyNext (.ref a)) _ >>= _) _ _ s
    refine wpAny_bind (wpAny_tryCatch (gen_next (B := A.in1.in1) rfl hh hd (by simp) l hk Gs st q (fun s' H' G' f sm => ?_) fun m v s' i' k' H' y hn hk' ry G' st' gt sm l' => ?_))
    · obtain ⟨ys, us, S2, μ, rp, rys, s1, p⟩ := f
      have eS0 := sm S hSm _ e0
      unfold RpBest at rp
      rw [vw_at hSm, eS0] at rp
      show wpAny _ A.in1 (updateSeq S (fun _ => #[]) >>= _) _ _ _
      refine wpAny_bind (wpAny_updateSeq eS0 rfl (wpAny_bind (wpAny_letGo (wpAny_pure ?_))))
      have oth : ∀ b o, b ≠ S → s'.heap.get? b = some o → (s'.heap.update S (Obj.mapSeq (fun _ => (#[] : Array Value)))).get? b = some o := fun b o hb e => (Heap.get?_update_other _ _ (Ne.symm hb)).trans e
      refine hR m0 t0 _ H' (G'.turn (t' := s'.toks) hpn hSm oth ⟨_, Heap.get?_update_self _ eS0 rfl, fun v e => by cases e⟩) ?_
      unfold finBest at p
      rw [← vIs_of rys] at p
      cases h2 : best gtB (us.map vI) with
      | none =>
        rw [h2] at rp
        obtain ⟨c, e⟩ := rp
        exact (lo_len e.symm).elim
      | some mm =>
        rw [h2] at rp p
        obtain ⟨t, c, e⟩ := rp
        rw [lo_inj2 e]
        exact (Post.here (W := W) s1.lnk p) _ rfl
    · obtain ⟨e1, e2, ys, us, d, S2, μ, rp, rys, rd, s1, p⟩ := gt
      unfold RpBest at rp
      have eS0 := sm S hSm _ e0
      rw [vw_at hSm, eS0] at rp
      have hx : ∃ x, d = .int x := by
        cases d <;> first | exact ⟨_, rfl⟩ | (rcases p with ⟨r, h, _⟩ | ⟨h, _⟩ <;> cases h)
      obtain ⟨x, rfl⟩ := hx
      have p : Post G μ S2 H' W (WQ G Q) (genL bod chkInt (finBest gtB) (ys ++ [.int x]) (ds.drop i') S2) := by
        rcases p with ⟨r, h, _⟩ | ⟨_, p⟩
        · cases h
        · exact p
      have ry1 : y = .int x := rd
      subst ry1
      obtain ⟨tx, rfl⟩ := (show ∃ t, v = Value.int x t from ry)
      have hb2 : best gtB (us.map vI) = some m0 := by
        cases h2 : best gtB (us.map vI) with
        | none =>
          rw [h2] at rp
          obtain ⟨c, e⟩ := rp
          exact (lo_len e.symm).elim
        | some mm =>
          rw [h2] at rp
          obtain ⟨t, c, e⟩ := rp
          rw [lo_inj2 e]
      have hb3 : best gtB ((us ++ [V.int x]).map vI) = if gtB x m0 = true then some x else some m0 := by
        rw [List.map_append]
        show best gtB (us.map vI ++ [x]) = _
        rw [best_snoc, hb2]
      show wpAny _ A.in1 (tryCatch (holding [.int x tx, .int x tx] (richCompare .Gt (.int x tx) (.int m0 t0) >>= _)) _ >>= _) _ _ _
      refine wpAny_bind (wpAny_tryCatch (wpAny_holding (wpAny_bind (cmpGt x m0 tx t0 ?_))))
      refine wpAny_bind (wpAny_holding (wpAny_truthy_bool ?_))
      refine wpAny_bind (wpAny_letGo (wpAny_pure ?_))
      cases hbt : gtB x m0 with
      | true =>
        rw [hbt] at hb3
        have hbt' : decide (x > m0) = true := hbt
        simp only [hbt', if_true]
        refine wpAny_bind ?_
        refine wpAny_updateSeq eS0 rfl (wpAny_bind (wpAny_letGo ?_))
        rw [hname]
        exact wpAny_pure ⟨plainId_quiet F.plain_max_loop _, go m i' k' H' s' x tx _ ys us S2 μ hn hk' G' st' l' e1 e2 rys s1 p ⟨x, tx, _, hb3, Heap.get?_update_self _ eS0 rfl⟩⟩
      | false =>
        rw [hbt] at hb3
        have hbt' : decide (x > m0) = false := hbt
        simp only [hbt', Bool.false_eq_true, if_false]
        refine wpAny_bind (wpAny_letGo ?_)
        rw [hname]
        refine wpAny_pure ⟨plainId_quiet F.plain_max_loop _, ih m (by omega) i' k' H' s' l' hk' G' st' keep ⟨e1, e2, _, us ++ [.int x], S2, μ, ?_, rys.append (show RVs G μ S2.n H' [D.int x] [V.int x] from ⟨_, _, rfl, rfl, rfl⟩), s1, p⟩ hR⟩
        unfold RpBest
        rw [hb3]
        show ∃ t c, _
        rw [vw_at hSm, eS0]
        exact ⟨t0, c0, rfl⟩
end
end Fd

set_option Elab.async false
set_option linter.all false
set_option maxRecDepth 100000
set_option maxHeartbeats 1000000
namespace Fd
open PySem PySem.Spec PyProof.Rows L2 GenW LamX
section
variable {X : Cx} {G : Gx} {W : XK} {fp : List Addr} {tn : Nat → Heap → Prop} {Q : VK} {ds : List D} {μ1 : Nat → Addr} {S1 : Sto} {H1 : Hp} {a gi : Nat} {S : Addr} {Y : Cx} {A : Around} {bod : D → M (Option D)} {σ0 : L2.St} {Rr : Result → Shared → Prop}
/-- any value may be put behind the list -/
def chkAll : List D → D → Option (Option D) := fun ys _ => if ys.length < sizeLine then some none else none
variable {fin : List D → M D}
theorem ext_loop (hpn : Y.pn = []) (hh : A.handled = none) (hd : A.depth < recursionLimit) (hSa : S ≠ a) (res : Value) :
    ∀ (n i k : Nat) (H : Hp) (s : Shared), Live Y A.in1.in1 fp [a, S] tn σ0 (StD G W Q bod chkAll fin (RpLst S) ds μ1 S1 H1) (GtD G W Q bod chkAll fin (RpLst S) ds μ1 S1 H1) (FinD G W Q fin (RpLst S) μ1 S1 H1) a gi i n s → k < n → GSt Y fp [a, S] σ0 H s → tn i s.heap → (∀ i h h', tn i h → (∀ b ∈ fp, ∀ o, h.get? b = some o → h'.get? b = some o) → tn i h') → StD G W Q bod chkAll fin (RpLst S) ds μ1 S1 H1 (vw [a, S] s) i k H →
      (∀ acc c s' H', GSt Y fp [a, S] σ0 H' s' → s'.heap.get? S = some (lo acc c) → (∃ ys us S2 μ, us.length ≤ sizeLine ∧ Vals us acc.toList ∧ RVs G μ S2.n H' ys us ∧ Stp G μ1 S1 H1 μ S2 H' ∧ Post G μ S2 H' W (WQ G Q) (fin ys S2)) → Rr (.ok (.ret res)) s') → codeAny (model Y.prog Y.w) A (.builtin "list.extend.loop" ⟨[.ref S, .ref a, res], []⟩) Rr s := by
  have hSm : S ∈ [a, S] := by simp
  intro n
  induction n using Nat.strongRecOn with
  | ind n ih =>
  intro i k H s l hk Gs st keep q hR
  refine (codeAny_builtin F.entry_extend_loop) ?_
  rw [(Around.under_plainId F.plain_extend_loop _)]
  show wpAny _ A.in1 (pyNext (.ref a) >>= _) _ _ s
  refine wpAny_bind (gen_next (B := A.in1.in1) rfl hh hd (by simp) l hk Gs st q (fun s' H' G' f sm => ?_) fun m v s' i' k' H' y hn hk' ry G' st' gt sm l' => ?_)
  · obtain ⟨ys, us, S2, μ, ⟨acc, c, e, hzl, rv⟩, rys, s1, p⟩ := f
    rw [vw_at hSm] at e
    exact wpAny_pure (hR acc c s' H' G' e ⟨ys, us, S2, μ, hzl, rv, rys, s1, p⟩)
  · obtain ⟨e1, e2, ys, us, d, S2, μ, ⟨acc, c, e, hzl, rv⟩, rys, rd, s1, p⟩ := gt
    rw [vw_at hSm] at e
    have hlen : ys.length < sizeLine ∧ Post G μ S2 H' W (WQ G Q) (genL bod chkAll fin (ys ++ [d]) (ds.drop i') S2) := by
      unfold chkAll at p
      by_cases hz : ys.length < sizeLine
      · rw [if_pos hz] at p
        rcases p with ⟨r, h, _⟩ | ⟨_, p⟩
        · cases h
        · exact ⟨hz, p⟩
      · rw [if_neg hz] at p
        rcases p with ⟨r, h, _⟩ | ⟨h, _⟩ <;> cases h
    have hacc : acc.size < sizeLine := by
      have q1 : us.length = acc.toList.length := rv.length
      have q2 : ys.length = us.length := rys.length
      have q3 : acc.toList.length = acc.size := Array.length_toList
      have q4 : ys.length < sizeLine := hlen.1
      omega
    show wpAny _ A.in1 (updateSeq S (·.push v) >>= _) _ _ _
    refine wpAny_bind ?_
    have oth : ∀ b o, b ≠ S → s'.heap.get? b = some o → (s'.heap.update S (Obj.mapSeq (·.push v))).get? b = some o := fun b o hb e => (Heap.get?_update_other _ _ (Ne.symm hb)).trans e
    have upX : ∃ c, (s'.heap.update S (Obj.mapSeq (·.push v))).get? S = some (lo (acc.push v) c) := ⟨_, Heap.get?_update_self _ e rfl⟩
    obtain ⟨c9, upX⟩ := upX
    have G2 : GSt Y fp [a, S] σ0 H' { s' with heap := s'.heap.update S (Obj.mapSeq (·.push v)) } := G'.turn (t' := s'.toks) hpn hSm oth ⟨_, upX, fun v e => by cases e⟩
    refine wpAny_updateSeq e rfl (wpAny_pure ⟨plainId_quiet F.plain_extend_loop _, ?_⟩) (Nat.le_of_lt hacc) (by show (acc.push v).size ≤ sizeLine + 1; rw [Array.size_push]; omega)
    refine ih m (by omega) i' k' H' _ (l'.mono' rfl fun o e => oth a o (Ne.symm hSa) e) hk' G2 (keep _ _ _ st' fun b hb o e => oth b o (fun z => (G'.wsn S hSm).2.2.2.1 (by rw [← z]; exact hb)) e) keep ⟨e1, e2, _, us ++ [y], S2, μ, ⟨acc.push v, c9, by rw [vw_at hSm]; exact upX, by rw [List.length_append, ← rys.length]; exact hlen.1, ?_⟩, rys.append (show RVs G μ S2.n H' [d] [y] from ⟨_, _, rfl, rd, rfl⟩), s1, hlen.2⟩ hR
    rw [Array.toList_push]
    exact rv.append (.cons ry .nil)
end
section
variable {X : Cx} {G : Gx} {W : XK} {pins : List (Addr × Obj)} {σ : L2.St} {tg elt iter : Expr} {ifs : List Expr} {scope : Scope} {gpos : Pos} {vs : List Nat} {R : It → Hp → Prop} {a gi : Nat} {s5 s4 : Shared} {H4 : Hp} {genv : Env} {fp ws : List Addr} {it : Addr} {tn : Nat → Heap → Prop} {J : It}
  {g : D → En → M En} {t : En → M Bool} {fe : En → M D} {Q : VK} {fin : List D → M D} {ds : List D} {μ1 : Nat → Addr} {S1 : Sto} {σd : En}
/-- all values, in a new list that nobody holds -/
theorem gen_collect {A : Around} {k : Nat} {E : Value → Shared → Prop} {Qc : List Value → Shared → Prop} (hB : Near X A.in1.in1) (hr : Room k X.A) (hAd : A.depth = X.A.depth) (hAh : A.handled = none) (hc : X.calm = true) (hco : scope.isCoroutine = false) (pc : GPc X G scope vs tg elt ifs g t fe)
    (M : GMk X pins σ tg elt iter ifs scope gpos vs R a s5 gi s4 H4 genv fp it tn J) (a1 : At G σd S1 μ1 σ H4) (ok : ItOk G J μ1 S1 H4 ds) (q : Post G μ1 S1 H4 W (WQ G Q) (genL (bodG vs g t fe σd) chkAll fin [] ds S1))
    (hQ : ∀ us s' H' ys vv S2 μ, Inv X pins σ H' s' → Vals vv us → us.length ≤ sizeLine → RVs G μ S2.n H' ys vv → Lnk G μ S2 H' → Post G μ S2 H' W (WQ G Q) (fin ys S2) → Qc us s') :
    wpAny (model X.prog X.w) A (collect (.ref a)) Qc E s5 := by
  have hlt : a < s5.heap.objs.size := let ⟨_, _, _, ho, _⟩ := M.gen; Heap.lt_size ho
  have hSa : s5.heap.objs.size ≠ a := Nat.ne_of_gt hlt
  have tyg : ∀ {h : Heap}, (∀ b o, s5.heap.get? b = some o → h.get? b = some o) → h.IsGen a gi := fun {h} z => M.gen.keeps z
  unfold collect
  refine (wpAny_bind (wpAny_runValue (codeAny_builtin F.entry_proto_collect ?_)))
  rw [(Around.under_plainId F.plain_proto_collect _)]
  show wpAny _ A.in1 (newList [] >>= fun l => again (.builtin "list.__iadd__" ⟨[l, .ref a], []⟩)) _ _ s5
  refine wpAny_bind ((wpAny_newObj_type ?_))
  refine wpAny_pure ⟨plainId_quiet F.plain_list_iadd _, (codeAny_builtin F.entry_list_iadd) ?_⟩
  rw [(Around.under_plainId F.plain_list_iadd _)]
  show wpAny _ A.in1 (Builtin.List.listExtendWith (.ref s5.heap.objs.size) (.ref a) (.ref s5.heap.objs.size)) _ _ _
  unfold Builtin.List.listExtendWith
  have k1 : ∀ b o, s5.heap.get? b = some o → (s5.heap.push { cls := .type "list", data := .seq ([] : List Value).toArray }).get? b = some o := fun b o e => Heap.get?_push_of_some _ e
  have ty1 : ({ s5 with heap := s5.heap.push { cls := .type "list", data := .seq ([] : List Value).toArray } } : Shared).TypeIs (.ref a) "generator" := Heap.IsGen.typeIs (s := { s5 with heap := _ }) (tyg k1)
  refine wpAny_bind (wpAny_typeOf ty1 ?_)
  have h1 : Builtin.List.listSameRef (.ref s5.heap.objs.size) (.ref a) = false := by simp [Builtin.List.listSameRef, hSa]
  have h2 : (Value.type "generator" == Value.type "list") = false := by decide
  have h3 : (Value.type "generator" == Value.type "tuple") = false := by decide
  simp only [h1, h2, h3, Bool.or_false, Bool.false_eq_true, if_false]
  refine wpAny_bind (wpAny_pyIter_gen (s := { s5 with heap := _ }) (tyg k1) ?_)
  refine wpAny_bind ((wpAny_holding ?_))
  unfold Builtin.List.listLengthHint
  refine wpAny_bind (wpAny_specialOf ty1 F.gen_no_len ?_)
  show wpAny _ A.in1 (specialOf (Value.ref a) (Str.ofString "__length_hint__") >>= _) _ _ _
  refine wpAny_bind (wpAny_specialOf ty1 F.gen_no_hint ?_)
  refine wpAny_pure ?_
  show wpAny _ A.in1 (rule "list.extend.makes-room" >>= fun _ => Builtin.List.listTouch (.ref s5.heap.objs.size) >>= fun _ =>
    again (.builtin "list.extend.loop" ⟨[.ref s5.heap.objs.size, .ref a, .ref s5.heap.objs.size], []⟩)) _ _ _
  refine wpAny_bind (wpAny_rule ?_)
  have eS1 : (s5.heap.push { cls := .type "list", data := .seq ([] : List Value).toArray }).get? s5.heap.objs.size = some { cls := .type "list", data := .seq ([] : List Value).toArray } := Heap.get?_push_size _ rfl
  refine wpAny_bind ?_
  show wpAny _ A.in1 (updateSeq s5.heap.objs.size (·.push .none) >>= fun _ => updateSeq s5.heap.objs.size (·.pop)) _ _ _
  refine wpAny_bind (wpAny_updateSeq eS1 rfl ?_)
  have eS2 := Heap.get?_update_self (Obj.mapSeq (·.push Value.none)) eS1 rfl
  refine wpAny_updateSeq eS2 rfl ?_
  have eS3 : ∃ c, (((s5.heap.push { cls := .type "list", data := .seq ([] : List Value).toArray }).update s5.heap.objs.size (Obj.mapSeq (·.push Value.none))).update s5.heap.objs.size (Obj.mapSeq (·.pop))).get? s5.heap.objs.size = some (lo #[] c) := ⟨_, Heap.get?_update_self (Obj.mapSeq (·.pop)) eS2 rfl⟩
  obtain ⟨c3, eS3⟩ := eS3
  have k3 : ∀ b o, s5.heap.get? b = some o → (((s5.heap.push { cls := .type "list", data := .seq ([] : List Value).toArray }).update s5.heap.objs.size (Obj.mapSeq (·.push Value.none))).update s5.heap.objs.size (Obj.mapSeq (·.pop))).get? b = some o := fun b o e =>
    have hb : s5.heap.objs.size ≠ b := Nat.ne_of_gt (Heap.lt_size e)
    (Heap.get?_update_other _ _ hb).trans ((Heap.get?_update_other _ _ hb).trans (k1 b o e))
  refine wpAny_pure ⟨plainId_quiet F.plain_extend_loop _, ?_⟩
  generalize hh6 : ((s5.heap.push { cls := .type "list", data := .seq ([] : List Value).toArray }).update s5.heap.objs.size (Obj.mapSeq (·.push Value.none))).update s5.heap.objs.size (Obj.mapSeq (·.pop)) = h6 at eS3 k3
  have Gs : GSt (gcx X A.in1.in1 s4 H4 genv fp) fp [a, s5.heap.objs.size] (L2.wipe σ vs) H4 { s5 with heap := h6 } := M.gst hB (t6 := s5.toks) k3 fun b hb => by
    rcases List.mem_cons.mp hb with z | z
    · exact .inl z
    · have z := List.mem_singleton.mp z
      exact .inr ⟨Nat.le_of_eq z.symm, by rw [z]; exact ⟨_, eS3, fun v e => by cases e⟩⟩
  refine ext_loop (W := W) (Y := gcx X A.in1.in1 s4 H4 genv fp) (A := A) rfl hAh (by have := hr.dp; omega) hSa (.ref s5.heap.objs.size) (ds.length + 1) 0 ds.length H4 { s5 with heap := h6 } (M.live hB hc hco pc a1 ok rfl fun o e => k3 a o e) (Nat.lt_succ_self _) Gs (M.T.keep _ _ _ M.st fun b _ o e => k3 b o e) M.T.keep
    (StD.first a1.lnk ⟨#[], c3, by rw [vw_at (by simp)]; exact eS3, Nat.zero_le _, .nil⟩ q) fun acc c s' H' G' e hv => ?_
  obtain ⟨ys, us, S2, μ, hzl, rv, rys, s1, p⟩ := hv
  show wpAny _ A (load s5.heap.objs.size >>= _) _ _ s'
  refine wpAny_bind (wpAny_load e ?_)
  refine wpAny_pure (hQ acc.toList s' H' ys us S2 μ (M.back G') rv (by rw [← rv.length]; exact hzl) rys s1.lnk p)
end
end Fd

set_option Elab.async false
set_option linter.all false
set_option maxRecDepth 100000
set_option maxHeartbeats 1000000
namespace Fd
open PySem PySem.Spec PyProof.Rows L2 GenW LamX
section
variable {X : Cx} {G : Gx} {W : XK} {pins : List (Addr × Obj)} {σ : L2.St} {tg elt iter : Expr} {ifs : List Expr} {scope : Scope} {gpos : Pos} {vs : List Nat}
  {g : D → En → M En} {t : En → M Bool} {fe : En → M D} {chk : List D → D → Option (Option D)} {fin : List D → M D}
theorem near_in4 (hd : X.A.handled = none) : Near X X.A.in1.in1.in1.in1 := ⟨hd, rfl, Nat.le_succ _, by show X.A.units + 1 + 1 + 1 + 1 ≤ _; omega⟩
theorem se_genTy {T0 : List (Addr × Str)} {k : Nat} {c P : Addr} {own : List (Str × Nat)} {fit : En → M (List D)} {x : Str} {T : String} {p pos : Pos} (Hh : GHost X G T0 k c P) (Sc : GSc X scope own) (hi : SI X G W tg iter fit) (use : UseG X G W scope gpos (own.map (·.2)) tg elt iter ifs g t fe chk fin (.type T))
    (hm : X.mg x = none) (hg : Gl X x := by rfl) (hv : bootBuiltins x = some (.type T) := by decide +kernel) (hn : x ≠ "__name__" := by decide) (hdb : (x == ("__debug__" : Str)) = false := by decide) (hgf : ∀ v, genFold iter X.env v = pure v := by intro _; rfl)
    (he : starEach [.GeneratorExp elt [⟨tg, iter, ifs, 0⟩] scope gpos] X.env = (false, eval (.GeneratorExp elt [⟨tg, iter, ifs, 0⟩] scope gpos) X.env) :: starEach [] X.env := by rfl) :
    SE X G W (.Call (.Name x p) [.GeneratorExp elt [⟨tg, iter, ifs, 0⟩] scope gpos] [] pos) (genE fit (own.map (·.2)) g t fe chk fin) := by
  refine ⟨fun pins s σ H Q I h => ?_⟩
  refine wpAny_Call_Name_kw (ld_blt I hg hm hv ?_ hn hdb)
  refine PyProof.Rows.callWith_type1 ?_ he (by rfl)
  rw [he]
  show wpAny _ _ (spliced ((false, eval (.GeneratorExp elt [⟨tg, iter, ifs, 0⟩] scope gpos) X.env) :: backTo pos (starEach [] X.env))) _ _ s
  exact Calls.spliced_cons (wpAny_mono (gen_run Hh Sc hi hgf use I h) (fun v s5 hv => Calls.spliced_nil hv) fun _ _ x => x)
/-! ### tuple -/
def finTup : List D → M D := fun ys => M.pure (.tup ys)
theorem use_tuple {k : Nat} (hr : Room k X.A) (hc : X.calm = true) (hco : scope.isCoroutine = false) (pc : GPc X G scope vs tg elt ifs g t fe) : UseG X G W scope gpos vs tg elt iter ifs g t fe chkAll finTup (.type "tuple") := by
  intro pins σ R a gi s5 s4 H4 genv fp it tn J Q ds μ1 S1 σd M a1 ok q
  refine callType_codes (Q₁ := fun obj s₁ => s₁.TypeIs obj "tuple" ∧ EP X pins σ Q obj s₁) F.called_tuple (F.typeCall_tuple_1 _) F.entry_object_init ?_ fun obj s₁ h₁ => ?_
  · refine codeAny_of_tree ?_
    show wpAny _ X.A.in1.in1 (do checkBuiltinCall "tuple.__new__" ⟨[.type "tuple", .ref a], []⟩; again (.builtin "tuple.__new__" ⟨[.type "tuple", .ref a], []⟩)) _ _ s5
    refine wpAny_bind (wpAny_of_eq (F.newCall_tuple_1 _) (wpAny_pure ⟨plainId_quiet F.plain_tuple_new _, codeAny_builtin F.entry_tuple_new ?_⟩))
    rw [(Around.under_plainId F.plain_tuple_new _)]
    have hsub := sub_tuple_self
    have hinit := init_tuple_lookup
    have hmh := madeHere_tuple
    have hTI : s5.TypeIs (.ref a) "generator" := M.gen.typeIs
    have col : ∀ {E : Value → Shared → Prop} {Qc : List Value → Shared → Prop}, (∀ us s' H' ys vv S2 μ, Inv X pins σ H' s' → Vals vv us → us.length ≤ sizeLine → RVs G μ S2.n H' ys vv → Lnk G μ S2 H' → Post G μ S2 H' W (WQ G Q) (finTup ys S2) → Qc us s') →
        wpAny (model X.prog X.w) X.A.in1.in1 (collect (.ref a)) Qc E s5 := fun {E Qc} hQ => gen_collect (A := X.A.in1.in1) (k := k) (near_in4 hr.hd) hr rfl hr.hd hc hco pc M a1 ok q hQ
    wp_walk using wpAny_typeOf hTI, col
    intro us s' H' ys vv S2 μ I' rv hz rys L2 p
    show wpAny _ _ (Builtin.Tuple.tupleExact us.toArray >>= fun v => ret v) _ _ _
    unfold Builtin.Tuple.tupleExact
    refine wpAny_bind ((wpAny_newObj_type ?_ (by show us.toArray.size ≤ sizeLine; simpa using hz)))
    refine wpAny_pure ?_
    have hn : H' s'.heap.objs.size = none := I'.hok.fresh (Nat.le_refl _)
    refine ⟨⟨_, Heap.get?_push_size _ rfl, rfl⟩, .ref s'.heap.objs.size, upd H' s'.heap.objs.size (.tup vv), ?_, rfl, Post.step (Stp.new L2 hn) p _ (new_tup L2 hn rys)⟩
    exact I'.laid (t' := s'.toks) (fun b o e => Heap.get?_push_of_some _ e) (Nat.le_refl _) ⟨by rw [rv.length]; exact hz, us, rv, _, Heap.get?_push_size _ rfl, rfl, _, rfl⟩
  · exact ⟨h₁.1, F.args_object_init_2 obj _, object_init_meets F.called_tuple.init.lookup F.called_tuple.made (by decide) X.prog X.w X.A.in1 _ s₁ ⟨h₁.1, rfl, h₁.2⟩⟩
/-! ### sum, min, max -/
theorem use_sum {k : Nat} (hr : Room k X.A) (hc : X.calm = true) (hco : scope.isCoroutine = false) (pc : GPc X G scope vs tg elt ifs g t fe) : UseG X G W scope gpos vs tg elt iter ifs g t fe chkSum finSum (.builtin "sum") := by
  intro pins σ R a gi s5 s4 H4 genv fp it tn J Q ds μ1 S1 σd M a1 ok q
  have hB := near_in2 (X := X) hr.hd
  have hlt : a < s5.heap.objs.size := let ⟨_, _, _, ho, _⟩ := M.gen; Heap.lt_size ho
  have hSa : s5.heap.objs.size ≠ a := Nat.ne_of_gt hlt
  refine (call_function_tree F.kind_sum F.plain_sum F.entry_sum (F.args_sum1 _)) ?_
  unfold Builtin.«sum»
  simp only [List.length_cons, List.length_nil]
  rw [if_neg (by decide)]
  refine wpAny_bind (wpAny_of_eq (show Builtin.Builtins.bindParams "sum" ["start"] 0 { } = pure [none] from rfl) ?_)
  refine wpAny_bind (wpAny_pyIter_gen M.gen ?_)
  refine wpAny_bind ((wpAny_mkInt ?_))
  refine wpAny_bind ((wpAny_pure ?_))
  simp only [List.forIn_cons, List.forIn_nil]
  refine wpAny_bind (wpAny_bind (wpAny_bind (wpAny_isInstance (T := "int") (b := false) (typeIs_int _ _ _) PySem.sub_int_str ?_)))
  simp only [Bool.false_eq_true, if_false]
  refine wpAny_pure (wpAny_bind (wpAny_bind (wpAny_isInstance (T := "int") (b := false) (typeIs_int _ _ _) PySem.sub_int_bytes ?_)))
  simp only [Bool.false_eq_true, if_false]
  refine wpAny_pure (wpAny_bind (wpAny_bind (wpAny_isInstance (T := "int") (b := false) (typeIs_int _ _ _) PySem.sub_int_bytearray ?_)))
  simp only [Bool.false_eq_true, if_false]
  refine wpAny_pure (wpAny_pure ?_)
  refine wpAny_bind ((wpAny_newObj_type ?_))
  have eS : ∃ t c, (s5.heap.push { cls := .type "list", data := .seq [Value.int 0 s5.toks].toArray }).get? s5.heap.objs.size = some (lo #[.int 0 t] c) := ⟨_, _, Heap.get?_push_size _ rfl⟩
  obtain ⟨t3, c3, eS⟩ := eS
  have k3 : ∀ b o, s5.heap.get? b = some o → (s5.heap.push { cls := .type "list", data := .seq [Value.int 0 s5.toks].toArray }).get? b = some o := fun b o e => Heap.get?_push_of_some _ e
  have Gs : ∀ t6, GSt (gcx X X.A.in1.in1 s4 H4 genv fp) fp [a, s5.heap.objs.size] (L2.wipe σ vs) H4 { s5 with heap := s5.heap.push { cls := .type "list", data := .seq [Value.int 0 s5.toks].toArray }, toks := t6 } := fun t6 => M.gst hB k3 fun b hb => by
    rcases List.mem_cons.mp hb with z | z
    · exact .inl z
    · have z := List.mem_singleton.mp z
      exact .inr ⟨Nat.le_of_eq z.symm, by rw [z]; exact ⟨_, eS, fun v e => by cases e⟩⟩
  exact wpAny_pure ⟨plainId_quiet F.plain_sum_loop _, sum_loop (W := W) (Y := gcx X X.A.in1.in1 s4 H4 genv fp) (A := X.A) rfl hr.hd (by have := hr.dp; omega) hSa (ds.length + 1) 0 ds.length H4 _ (M.live hB hc hco pc a1 ok rfl fun o e => k3 a o e) (Nat.lt_succ_self _) (Gs _) (M.T.keep _ _ _ M.st fun b _ o e => k3 b o e) M.T.keep
    (StD.first a1.lnk ⟨t3, c3, by rw [vw_at (by simp)]; exact eS⟩ q) fun m t s' H' G' hq => ⟨.int m, H', M.back G', ⟨t, rfl⟩, hq⟩⟩
theorem use_min {k : Nat} (hr : Room k X.A) (hc : X.calm = true) (hco : scope.isCoroutine = false) (pc : GPc X G scope vs tg elt ifs g t fe) : UseG X G W scope gpos vs tg elt iter ifs g t fe chkInt (finBest ltB) (.builtin "min") := by
  intro pins σ R a gi s5 s4 H4 genv fp it tn J Q ds μ1 S1 σd M a1 ok q
  have hB := near_in2 (X := X) hr.hd
  have hlt : a < s5.heap.objs.size := let ⟨_, _, _, ho, _⟩ := M.gen; Heap.lt_size ho
  have hSa : s5.heap.objs.size ≠ a := Nat.ne_of_gt hlt
  have hname : (toString "min" ++ toString ".loop" : String) = "min.loop" := by decide
  refine (call_function_tree F.kind_min F.plain_min F.entry_min (F.args_min1 _)) ?_
  show wpAny _ X.A.in1 (Builtin.Builtins.bindParams "min" ["key", "default"] 0 ⟨[], []⟩ >>= _) _ _ s5
  refine wpAny_bind (wpAny_of_eq (show Builtin.Builtins.bindParams "min" ["key", "default"] 0 ⟨[], []⟩ = pure [none, none] from rfl) ?_)
  refine wpAny_bind ((wpAny_pure ?_))
  refine wpAny_bind (wpAny_pyIter_gen M.gen ?_)
  refine wpAny_bind ((wpAny_newObj_type ?_))
  have eS : ∃ c, (s5.heap.push { cls := .type "list", data := .seq ([] : List Value).toArray }).get? s5.heap.objs.size = some (lo #[] c) := ⟨_, Heap.get?_push_size _ rfl⟩
  obtain ⟨c3, eS⟩ := eS
  have k3 : ∀ b o, s5.heap.get? b = some o → (s5.heap.push { cls := .type "list", data := .seq ([] : List Value).toArray }).get? b = some o := fun b o e => Heap.get?_push_of_some _ e
  have Gs : ∀ t6, GSt (gcx X X.A.in1.in1 s4 H4 genv fp) fp [a, s5.heap.objs.size] (L2.wipe σ vs) H4 { s5 with heap := s5.heap.push { cls := .type "list", data := .seq ([] : List Value).toArray }, toks := t6 } := fun t6 => M.gst hB k3 fun b hb => by
    rcases List.mem_cons.mp hb with z | z
    · exact .inl z
    · have z := List.mem_singleton.mp z
      exact .inr ⟨Nat.le_of_eq z.symm, by rw [z]; exact ⟨_, eS, fun v e => by cases e⟩⟩
  rw [hname]
  exact wpAny_pure ⟨plainId_quiet F.plain_min_loop _, min_loop (W := W) (Y := gcx X X.A.in1.in1 s4 H4 genv fp) (A := X.A) rfl hr.hd (by have := hr.dp; omega) hSa (ds.length + 1) 0 ds.length H4 _ (M.live hB hc hco pc a1 ok rfl fun o e => k3 a o e) (Nat.lt_succ_self _) (Gs _) (M.T.keep _ _ _ M.st fun b _ o e => k3 b o e) M.T.keep
    (StD.first a1.lnk ⟨c3, by rw [vw_at (by simp)]; exact eS⟩ q) fun m t s' H' G' hq => ⟨.int m, H', M.back G', ⟨t, rfl⟩, hq⟩⟩
theorem use_max {k : Nat} (hr : Room k X.A) (hc : X.calm = true) (hco : scope.isCoroutine = false) (pc : GPc X G scope vs tg elt ifs g t fe) : UseG X G W scope gpos vs tg elt iter ifs g t fe chkInt (finBest gtB) (.builtin "max") := by
  intro pins σ R a gi s5 s4 H4 genv fp it tn J Q ds μ1 S1 σd M a1 ok q
  have hB := near_in2 (X := X) hr.hd
  have hlt : a < s5.heap.objs.size := let ⟨_, _, _, ho, _⟩ := M.gen; Heap.lt_size ho
  have hSa : s5.heap.objs.size ≠ a := Nat.ne_of_gt hlt
  have hname : (toString "max" ++ toString ".loop" : String) = "max.loop" := by decide
  refine (call_function_tree F.kind_max F.plain_max F.entry_max (F.args_max1 _)) ?_
  show wpAny _ X.A.in1 (Builtin.Builtins.bindParams "max" ["key", "default"] 0 ⟨[], []⟩ >>= _) _ _ s5
  refine wpAny_bind (wpAny_of_eq (show Builtin.Builtins.bindParams "max" ["key", "default"] 0 ⟨[], []⟩ = pure [none, none] from rfl) ?_)
  refine wpAny_bind ((wpAny_pure ?_))
  refine wpAny_bind (wpAny_pyIter_gen M.gen ?_)
  refine wpAny_bind ((wpAny_newObj_type ?_))
  have eS : ∃ c, (s5.heap.push { cls := .type "list", data := .seq ([] : List Value).toArray }).get? s5.heap.objs.size = some (lo #[] c) := ⟨_, Heap.get?_push_size _ rfl⟩
  obtain ⟨c3, eS⟩ := eS
  have k3 : ∀ b o, s5.heap.get? b = some o → (s5.heap.push { cls := .type "list", data := .seq ([] : List Value).toArray }).get? b = some o := fun b o e => Heap.get?_push_of_some _ e
  have Gs : ∀ t6, GSt (gcx X X.A.in1.in1 s4 H4 genv fp) fp [a, s5.heap.objs.size] (L2.wipe σ vs) H4 { s5 with heap := s5.heap.push { cls := .type "list", data := .seq ([] : List Value).toArray }, toks := t6 } := fun t6 => M.gst hB k3 fun b hb => by
    rcases List.mem_cons.mp hb with z | z
    · exact .inl z
    · have z := List.mem_singleton.mp z
      exact .inr ⟨Nat.le_of_eq z.symm, by rw [z]; exact ⟨_, eS, fun v e => by cases e⟩⟩
  rw [hname]
  exact wpAny_pure ⟨plainId_quiet F.plain_max_loop _, max_loop (W := W) (Y := gcx X X.A.in1.in1 s4 H4 genv fp) (A := X.A) rfl hr.hd (by have := hr.dp; omega) hSa (ds.length + 1) 0 ds.length H4 _ (M.live hB hc hco pc a1 ok rfl fun o e => k3 a o e) (Nat.lt_succ_self _) (Gs _) (M.T.keep _ _ _ M.st fun b _ o e => k3 b o e) M.T.keep
    (StD.first a1.lnk ⟨c3, by rw [vw_at (by simp)]; exact eS⟩ q) fun m t s' H' G' hq => ⟨.int m, H', M.back G', ⟨t, rfl⟩, hq⟩⟩
end
end Fd

set_option Elab.async false
set_option linter.all false
set_option maxRecDepth 100000
set_option maxHeartbeats 1000000
namespace Fd
open PySem PySem.Spec PyProof.Rows L2 GenW LamX
/-! ### list comprehensions -/
section
variable {X : Cx} {pins : List (Addr × Obj)} {σ : L2.St} {H : Hp} {s : Shared}
/-- an untracked list is tracked from now on -/
theorem inv_track {D : Addr} {acc : Array Value} {c : Nat} {us : List V} (I : Inv X pins σ H s) (f : FpOk X pins H D) (ho : s.heap.get? D = some (lo acc c)) (rv : Vals us acc.toList) (hz : us.length ≤ sizeLine) : Inv X pins σ (upd H D (.lst us)) s := by
  obtain ⟨f0, f1, f2, f3, f4, f5⟩ := f
  refine I.step (g' := s.gens) (d' := s.drawn) (t' := s.toks) (ch := [D]) (fun b hb => by rw [List.mem_singleton.mp hb]; exact ⟨f3, f1, f4, f5⟩) (fun b o _ _ _ e _ => e) (fun b o _ _ _ e _ => ⟨o.slots, e⟩)
    (fun b o hb _ n => by rw [upd_ne (fun z => hb (List.mem_singleton.mpr z))]; exact n) (fun b o _ e => ⟨o, e⟩) (fun b xs e => by rw [upd_ne (ne_of_none e f0)]; exact e) (fun b o u e => by rw [upd_ne (ne_of_none e f0)]; exact e) (fun b ps e => ⟨#[], by rw [upd_ne (ne_of_none e f0), e]; simp⟩) (fun m hm => hm) (fun b u e => ?_) I.bare
  by_cases hb : b = D
  · subst hb
    rw [upd_same] at e
    cases e
    exact ⟨hz, acc.toList, c, rv, by simpa using ho⟩
  · rw [upd_ne hb] at e
    exact (I.hok b u e).stay (fun d v _ q => q) (fun d q => by rw [upd_ne (ne_of_none q f0)]; exact q) fun d xs q => by rw [upd_ne (ne_of_none q f0)]; exact q
end
/-- what is made of the values -/
def FinL (G : Gx) (fin : List D → M D) : Prop := ∀ (W : XK) (Q : VK) (μ : Nat → Addr) (S : Sto) (H : Hp) (ys : List D) (us : List V) (p : Addr), Lnk G μ S H → RVs G μ S.n H ys us → Post G μ S H W (WQ G Q) (fin ys S) → H p = none → Q (.ref p) (upd H p (.lst us))
def finLst : List D → M D := fun ys => M.pure (.lst ys)
theorem finL_lst {G : Gx} : FinL G finLst := fun W Q μ S H ys us p L r q hp => Post.step (Stp.new L hp) q _ (new_lst L hp r)
theorem finL_own {G : Gx} : FinL G newL := fun W Q μ S H ys us p L r q hp => Post.step (own_lst L hp r) q _ rv_own
section
variable {X : Cx} {G : Gx} {W : XK} {tg elt iter : Expr} {ifs : List Expr} {scope : Scope} {own : List (Str × Nat)} {pos : Pos} {g : D → En → M En} {t : En → M Bool} {fe : En → M D} {fit : En → M (List D)} {fin : List D → M D}
/-- a reading with the outer slots known -/
abbrev rdTw (G : Gx) (W : XK) (σ0 : L2.St) (vs : List Nat) (t : En → M Bool) : TT := fun σ H Q => L2.wipe σ vs = L2.wipe σ0 vs ∧ rdT G W t σ H Q
abbrev rdEw (G : Gx) (W : XK) (σ0 : L2.St) (vs : List Nat) (f : En → M D) : TE := fun σ H Q => L2.wipe σ vs = L2.wipe σ0 vs ∧ rdE G W f σ H Q
structure LPc (X : Cx) (G : Gx) (scope : Scope) (vs : List Nat) (tg elt : Expr) (ifs : List Expr) (g : D → En → M En) (t : En → M Bool) (fe : En → M D) : Prop where
  run : ∀ (pins : List (Addr × Obj)) (σ0 : L2.St) (s : Shared) (H : Hp) (C : Addr) (cl : List (Str × Addr)) (fp : List Addr), Inv X pins σ0 H s → (∀ b ∈ fp, FpOk X pins H b) →
    SGc (X.blk s H scope (compEnvC scope cl C X.env) fp) G NoX vs tg g ∧ PTs (X.blk s H scope (compEnvC scope cl C X.env) fp) ifs (rdTw G NoX σ0 vs t) ∧ PE (X.blk s H scope (compEnvC scope cl C X.env) fp) elt (rdEw G NoX σ0 vs fe)
/-- pieces that do not look out -/
theorem LPc.of {vs : List Nat} (h : ∀ (s : Shared) (H : Hp) (C : Addr) (cl : List (Str × Addr)) (fp : List Addr),
    SGc (X.blk s H scope (compEnvC scope cl C X.env) fp) G NoX vs tg g ∧ STs (X.blk s H scope (compEnvC scope cl C X.env) fp) G NoX ifs t ∧ SE (X.blk s H scope (compEnvC scope cl C X.env) fp) G NoX elt fe) : LPc X G scope vs tg elt ifs g t fe :=
  ⟨fun pins σ0 s H C cl fp _ _ => let ⟨h1, h2, h3⟩ := h s H C cl fp; ⟨h1, pts_imp h2 fun σ H Q q => q.2, pe_imp h3 fun σ H Q q => q.2⟩⟩
theorem lcD {pins : List (Addr × Obj)} {s : Shared} {σ : L2.St} {H : Hp} {Q : VK} {pos' : Pos} {use : Option (Value → Sem Unit)} {Qf : Value → Shared → Prop}
    (hc : X.calm = true) (hN : X.N.Nodup) (hf : FinL G fin) (I : Inv X pins σ H s) (hi : SI X G W tg iter fit) (ok : BlkOk X.N X.env.scope scope own) (pc : LPc X G scope (own.map (·.2)) tg elt ifs g t fe) (hs : ∀ x, foldedSetIterable iter X.env x = pure x)
    (h : rdE G W (genE fit (own.map (·.2)) g t fe chkAll fin) σ H Q)
    (hRR : ∀ D C s' m H', Inv X pins σ H' s' → Q (.ref D) H' → s'.heap.Ns C m → FpOk X pins H' C → compPost (model X.prog X.w) X.A X.xe use Qf (.ref D) C (.ok .next) s') :
    wpAny (model X.prog X.w) X.A (comprehension (.ListComp elt [⟨tg, iter, ifs, 0⟩] scope pos) scope X.env pos' (newList []) false (eval iter X.env) use) Qf X.xe s := by
  have hfree : ∀ y ∈ scope.names, y.2 = .free → ∃ c, X.env.cells.lookup y.1 = some c := fun y hy e => by
    rcases ok.free y hy e with z | z
    · exact I.ok.has _ (.inl z)
    · exact I.ok.has _ (.inr z)
  obtain ⟨σd, S, μ, a0, p⟩ := h
  have p := Post.bind (k := fun ds => genL (bodG (own.map (·.2)) g t fe σd) chkAll fin [] ds) p
  have hw : rdI G W fit σ H (fun J H1 => ∃ ds S1 μ1, At G σd S1 μ1 σ H1 ∧ ItOk G J μ1 S1 H1 ds ∧ Post G μ1 S1 H1 W (WQ G Q) (genL (bodG (own.map (·.2)) g t fe σd) chkAll fin [] ds S1)) :=
    ⟨σd, S, μ, a0, p.mono fun ds S1 μ1 H1 s1 q J ok => ⟨ds, S1, μ1, a0.step s1, ok, q⟩⟩
  refine wpAny_comprehension_free (use := use) rfl hs (closure_ok hfree) ok.kind (fun y hy e => by rw [ok.uniq y hy, e])
    (wpAny_mono (hi.run pins s σ H _ I hw) (fun xv s1 hx => wpAny_mono hx (fun itv s2 h2 => ?_) fun _ _ x => x) fun _ _ x => x)
  obtain ⟨it, fp, tn, J, H2, e, I2, T, st2, f2, ds, S1, μ1, a1, iok, q⟩ := h2
  subst e
  refine wpAny_newObj_type (newEnv_comp ?_) (by show 0 ≤ sizeLine; decide)
  have hDn : ∀ {H' : Hp}, H' s2.heap.objs.size = none → FpOk X pins H' s2.heap.objs.size := fun {H'} z => I2.fpOk (Nat.le_refl _) z
  have h2D : H2 s2.heap.objs.size = none := I2.hok.fresh (Nat.le_refl _)
  generalize hs3 : ({ s2 with heap := s2.heap.push { cls := .type "list", data := .seq ([] : List Value).toArray } } : Shared) = s3
  have h3 : s3.heap = s2.heap.push { cls := .type "list", data := .seq ([] : List Value).toArray } := by rw [← hs3]
  have I3 : Inv X pins σ H2 s3 := by rw [← hs3]; exact I2.kept (t' := s2.toks) fun b o e => Heap.get?_push_of_some _ e
  have eD : ∃ c, s3.heap.get? s2.heap.objs.size = some (lo #[] c) := by rw [h3]; exact ⟨_, Heap.get?_push_size _ rfl⟩
  generalize hD : s2.heap.objs.size = D at hDn h2D eD
  have sz : ∀ b ∈ fp, b < D := fun b hb => by
    obtain ⟨o, e, _⟩ := T.obj _ _ st2 b hb
    rw [← hD]
    exact Heap.lt_size e
  have hD3 : D < s3.heap.objs.size := by rw [h3, Heap.size_push, ← hD]; exact Nat.lt_succ_self _
  have f3 : ∀ b ∈ D :: fp, FpOk X pins H2 b ∧ b < s3.heap.objs.size := fun b hb => by
    rcases List.mem_cons.mp hb with z | z
    · rw [z]; exact ⟨hDn h2D, hD3⟩
    · exact ⟨f2 b z, Nat.lt_trans (sz b z) hD3⟩
  have st3 : tn 0 s3.heap := T.keep _ _ _ st2 fun b _ o e => by rw [h3]; exact Heap.get?_push_of_some _ e
  have I4 := block_start I3 ok hN f3
  obtain ⟨pg, pt, pe⟩ := pc.run pins σ s3 H2 s3.heap.objs.size (cellsFrom (s3.heap.objs.size + 1) scope.names (cloFrom X.env.cells scope.names [])) (D :: fp) I3 (fun b hb => (f3 b hb).1)
  show codeAny _ _ (.compStart (.ListComp elt [⟨tg, iter, ifs, 0⟩] scope pos) 0 (.ref it) (.ref D) (compEnvC scope (cellsFrom (s3.heap.objs.size + 1) scope.names (cloFrom X.env.cells scope.names [])) s3.heap.objs.size X.env)) (compPost (model X.prog X.w) X.A X.xe use Qf (.ref D) s3.heap.objs.size) { s3 with heap := pushCells (s3.heap.push { cls := .type "dict", data := .dict #[] }) scope.names }
  generalize hce : compEnvC scope (cellsFrom (s3.heap.objs.size + 1) scope.names (cloFrom X.env.cells scope.names [])) s3.heap.objs.size X.env = ce at I4 pg pt pe ⊢
  have cL : ce.locals = s3.heap.objs.size := by subst hce; rfl
  generalize hs4 : ({ s3 with heap := pushCells (s3.heap.push { cls := .type "dict", data := .dict #[] }) scope.names } : Shared) = s4 at I4 ⊢
  have k34 : ∀ b o, s3.heap.get? b = some o → s4.heap.get? b = some o := fun b o e => by rw [← hs4]; exact pushCells_keeps _ _ _ _ (Heap.get?_push_of_some _ e)
  have st4 : tn 0 s4.heap := T.keep _ _ _ st3 fun b _ o e => k34 b o e
  obtain ⟨c3, eD⟩ := eD
  have Dfp : D ∉ fp := fun z => Nat.lt_irrefl _ (sz D z)
  have G4 : GSt (X.blk s3 H2 scope ce (D :: fp)) fp [D] (L2.wipe σ (own.map (·.2))) H2 s4 := ⟨I4, fun b hb => (f2 b hb).1, fun b hb => by
    rw [List.mem_singleton.mp hb]
    exact ⟨h2D, .inl List.mem_cons_self, by rw [cL]; exact Nat.ne_of_lt hD3, Dfp, _, k34 _ _ eD, fun v e => by cases e⟩⟩
  have td := turnD (W := W) (Q := Q) (chk := chkAll) (fin := fin) (Rp := RpLst D) a1 iok (vs := own.map (·.2)) (g := g) (t := t) (fe := fe)
  have hDm : D ∈ [D] := by simp
  have hex : ∀ b ∈ fp, b ∈ (X.blk s3 H2 scope ce (D :: fp)).ex := fun b hb => List.mem_cons_of_mem _ hb
  have loop : codeAny (model X.prog X.w) X.A (.compLoop (.ListComp elt [⟨tg, iter, ifs, 0⟩] scope pos) 0 (.ref it) (.ref D) ce) (compPost (model X.prog X.w) X.A X.xe use Qf (.ref D) s3.heap.objs.size) s4 := by
    refine compLoop_any (fun n s' => ∃ i H', GSt (X.blk s3 H2 scope ce (D :: fp)) fp [D] (L2.wipe σ (own.map (·.2))) H' s' ∧ tn i s'.heap ∧ StD G W Q (bodG (own.map (·.2)) g t fe σd) chkAll fin (RpLst D) ds μ1 S1 H2 (vw [D] s') i n H') ?_ ds.length
      ⟨0, H2, G4, st4, StD.first a1.lnk ⟨#[], c3, by rw [vw_at hDm]; exact k34 _ _ eD, Nat.zero_le _, .nil⟩ q⟩
    rintro n s5 ⟨i, H5, G5, st5, w5⟩
    have I5 := G5.inv
    have Iw : Inv (X.blk s3 H2 scope ce (D :: fp)) ([] ++ pinsAt [D] s5.heap) (L2.wipe σ (own.map (·.2))) H5 s5 := I5.pinned (G5.fpw rfl) fun b hb => (G5.wsn b hb).2.2.2.2
    have Iw : Inv (X.blk s3 H2 scope ce (D :: fp)) (pinsAt [D] s5.heap) (L2.wipe σ (own.map (·.2))) H5 s5 := by simpa using Iw
    have back : ∀ {pl : List (Addr × Obj)} {H' : Hp} {s' : Shared}, Inv (X.blk s3 H2 scope ce (D :: fp)) (pinsAt [D] s5.heap ++ pl) (L2.wipe σ (own.map (·.2))) H' s' → (∀ b ∈ fp, H' b = none) → GSt (X.blk s3 H2 scope ce (D :: fp)) fp [D] (L2.wipe σ (own.map (·.2))) H' s' ∧ vw [D] s' = vw [D] s5 := fun {pl H' s'} I' hf => by
      have kp : ∀ b ∈ [D], ∀ o, s5.heap.get? b = some o → s'.heap.get? b = some o ∧ H' b = none := fun b hb o e =>
        let z := I'.pin (b, o) (List.mem_append_right _ (List.mem_append_left _ (mem_pinsAt hb e)))
        ⟨z.1, z.2.1⟩
      refine ⟨⟨I'.pins_of fun p hp => absurd hp (by simp), hf, fun b hb => ?_⟩, vw_same G5 fun b hb o e => (kp b hb o e).1⟩
      obtain ⟨_, q2, q3, q4, o, q5, q6⟩ := G5.wsn b hb
      obtain ⟨z1, z2⟩ := kp b hb o q5
      exact ⟨z2, q2, q3, q4, o, z1, q6⟩
    rcases td (vw [D] s5) i n H5 w5 with ⟨stop, fi⟩ | ⟨go, Nx, Gx, hNx, hGx, step⟩
    · refine thnF (T.done (X.blk s3 H2 scope ce (D :: fp)) rfl rfl rfl hc i _ s5 _ H5 (fun _ _ => False) Iw (G5.fpf rfl hex) st5 stop) fun r s6 ⟨hr, I6⟩ => ?_
      subst hr
      obtain ⟨G6, ew⟩ := back (pl := []) (by simpa using I6) G5.fpn
      obtain ⟨ys, us, S6, μ6, ⟨acc, c, e6, hz, rv⟩, rys, s16, p6⟩ := fi
      rw [← ew, vw_at hDm] at e6
      have I7 : Inv X pins σ H5 s6 := I3.call' (ch := D :: fp) G6.inv.os G6.inv.base G6.inv.hok G6.inv.bare fun b hb => let z := (f3 b hb).1; ⟨z.2.2.2.1, z.2.1, z.2.2.2.2.1, z.2.2.2.2.2⟩
      have n5 : H5 D = none := (G5.wsn D hDm).1
      have I8 := inv_track I7 (hDn n5) e6 rv hz
      have nC : (upd H5 D (.lst us)) s3.heap.objs.size = none := by
        rw [upd_ne (Nat.ne_of_gt hD3), ← cL]
        exact G6.inv.free
      obtain ⟨m, hn, _⟩ := G6.inv.loc
      have hn : s6.heap.Ns ce.locals m := hn
      rw [cL] at hn
      exact hRR D s3.heap.objs.size s6 m _ I8 (hf W Q μ6 S6 H5 ys us D s16.lnk rys p6 n5) hn (I3.fpOk (Nat.le_refl _) nC)
    · refine thnF (T.item (X.blk s3 H2 scope ce (D :: fp)) rfl rfl rfl hc i _ s5 _ H5 (fun _ _ => False) Iw (G5.fpf rfl hex) st5 go) fun r s6 ⟨u, hr, h6⟩ => ?_
      subst hr
      refine thnF h6 fun _ s7 ⟨x, H7, I7, r7, y7, st7, n7⟩ => ?_
      have I7' := I7.pinned (fp := fp) (fun b hb => ⟨n7 b hb, (G5.fpf rfl hex (h := s5.heap) b hb).2⟩) (T.obj _ _ st7)
      have fin9 : ∀ {σ' : L2.St} {s' : Shared} {H' : Hp}, Inv (X.blk s3 H2 scope ce (D :: fp)) (pinsAt [D] s5.heap ++ pinsAt fp s7.heap) σ' H' s' → L2.wipe σ' (own.map (·.2)) = L2.wipe σ (own.map (·.2)) → GSt (X.blk s3 H2 scope ce (D :: fp)) fp [D] (L2.wipe σ (own.map (·.2))) H' s' ∧ vw [D] s' = vw [D] s5 ∧ tn (i + 1) s'.heap := fun {σ' s' H'} I' hw => by
        have pin' : ∀ b ∈ fp, ∀ o, s7.heap.get? b = some o → s'.heap.get? b = some o ∧ H' b = none := fun b hb o e =>
          let z := I'.pin (b, o) (List.mem_append_right _ (List.mem_append_right _ (mem_pinsAt hb e)))
          ⟨z.1, z.2.1⟩
        have I3' : Inv (X.blk s3 H2 scope ce (D :: fp)) (pinsAt [D] s5.heap ++ pinsAt fp s7.heap) (L2.wipe σ (own.map (·.2))) H' s' := I'.weak (by rw [← hw, wipe_length]) fun j v e => by
          rw [← hw] at e
          exact (wipe_some e).1
        obtain ⟨G', ew⟩ := back I3' fun b hb => by
          obtain ⟨o, e, _⟩ := T.obj _ _ st7 b hb
          exact (pin' b hb o e).2
        exact ⟨G', ew, T.keep _ _ _ st7 fun b hb o e => (pin' b hb o e).1⟩
      refine thnF (pg.run _ s7 _ H7 x u _ I7' r7 (step x H7 y7)) fun _ s8 ⟨σ8, H8, I8, hw8, q8⟩ => ?_
      refine thnF (pt.run _ s8 σ8 H8 _ I8 ⟨hw8, q8⟩) fun b s9 ⟨H9, I9, q9⟩ => ?_
      cases b with
      | false =>
        obtain ⟨G9, ew, st9⟩ := fin9 I9 hw8
        obtain ⟨k', hk', w9⟩ := hNx H9 q9
        simp only [Bool.false_eq_true, if_false]
        exact ⟨k', hk', i + 1, H9, G9, st9, by rw [ew]; exact w9⟩
      | true =>
        have q9 : rdE G NoX fe σ8 H9 Gx := q9
        simp only [if_true]
        refine thnF (pe.run _ s9 σ8 H9 _ I9 ⟨hw8, q9⟩) fun z s10 ⟨yv, H10, I10, r10, q10⟩ => ?_
        obtain ⟨G10, ew, st10⟩ := fin9 I10 hw8
        obtain ⟨k', hk', e1, e2, ys, us, d, S10, μ10, ⟨acc, c, eo, hz, rv⟩, rys, rd, s110, pp⟩ := hGx yv H10 q10
        have hlen : ys.length < sizeLine ∧ Post G μ10 S10 H10 W (WQ G Q) (genL (bodG (own.map (·.2)) g t fe σd) chkAll fin (ys ++ [d]) (ds.drop (i + 1)) S10) := by
          unfold chkAll at pp
          by_cases hz : ys.length < sizeLine
          · rw [if_pos hz] at pp
            rcases pp with ⟨r, h, _⟩ | ⟨_, pp⟩
            · cases h
            · exact ⟨hz, pp⟩
          · rw [if_neg hz] at pp
            rcases pp with ⟨r, h, _⟩ | ⟨h, _⟩ <;> cases h
        rw [← ew, vw_at hDm] at eo
        have hacc : acc.size ≤ sizeLine := by
          have q1 : us.length = acc.toList.length := rv.length
          have q3 : acc.toList.length = acc.size := Array.length_toList
          omega
        refine append_at (hsz := hacc) eo fun h' sb eo' => ?_
        have oth : ∀ b o, b ≠ D → s10.heap.get? b = some o → h'.get? b = some o := fun b o hb e => (sb.2 b hb).trans e
        have G11 : GSt (X.blk s3 H2 scope ce (D :: fp)) fp [D] (L2.wipe σ (own.map (·.2))) H10 { s10 with heap := h' } := G10.turn (t' := s10.toks) rfl hDm oth ⟨_, eo', fun v e => by cases e⟩
        refine ⟨k', hk', i + 1, H10, G11, T.keep _ _ _ st10 fun b hb o e => oth b o (fun z => Dfp (by rw [← z]; exact hb)) e, e1, e2, _, us ++ [yv], S10, μ10, ⟨acc.push z, c + 1, by rw [vw_at hDm]; exact eo', by rw [List.length_append, ← rys.length]; exact hlen.1, ?_⟩, rys.append (show RVs G μ10 S10.n H10 [d] [yv] from ⟨_, _, rfl, rd, rfl⟩), s110, hlen.2⟩
        rw [Array.toList_push]
        exact rv.append (.cons r10 .nil)
  exact codeAny_compStart_list loop (T.self X.A 0 _ _ _ st4 loop)
/-- as a value -/
theorem se_lc (fin : List D → M D) (hc : X.calm = true) (hN : X.N.Nodup) (hf : FinL G fin) (hi : SI X G W tg iter fit) (ok : BlkOk X.N X.env.scope scope own) (pc : LPc X G scope (own.map (·.2)) tg elt ifs g t fe) (hs : ∀ x, foldedSetIterable iter X.env x = pure x := by intro _; rfl) :
    SE X G W (.ListComp elt [⟨tg, iter, ifs, 0⟩] scope pos) (genE fit (own.map (·.2)) g t fe chkAll fin) := by
  refine ⟨fun pins s σ H Q I h => ?_⟩
  rw [eval_ListComp]
  refine lcD hc hN hf I hi ok pc hs h fun D C s' m H' I' q hn f => ⟨m, hn, fun h'' sb => ?_⟩
  obtain ⟨f0, f1, f2, f3, f4, f5⟩ := f
  exact ⟨.ref D, H', I'.turned (t' := s'.toks) (fun b o hb e => (sb.2 b hb).trans e) f0 f1 f3 f4 f5, rfl, q⟩
/-- name = [..] on one line, the name a local -/
theorem ss_setLc (i : Nat) (fin : List D → M D) {y : Str} {py : Pos} {spos : Pos} (hc : X.calm = true) (hN : X.N.Nodup) (hf : FinL G fin) (hi : SI X G W tg iter fit) (ok : BlkOk X.N X.env.scope scope own) (pc : LPc X G scope (own.map (·.2)) tg elt ifs g t fe) (hy : X.N[i]? = some y := by rfl) (hyl : X.env.scope.names.lookup y = some .local := by rfl)
    (hsw : swapsWith (.ListComp elt [⟨tg, iter, ifs, 0⟩] scope pos) (some (.Name y py)) spos.line X.env = pure true := by rfl) (hs : ∀ x, foldedSetIterable iter X.env x = pure x := by intro _; rfl) :
    SS X G W (.Assign [.Name y py] (.ListComp elt [⟨tg, iter, ifs, 0⟩] scope pos) spos) (setS i (genE fit (own.map (·.2)) g t fe chkAll fin)) := by
  refine ⟨fun pins s σ H Dn I ⟨σd, S, μ, a, p⟩ => ?_⟩
  have h : rdE G W (genE fit (own.map (·.2)) g t fe chkAll fin) σ H (fun x H1 => Dn.nx (σ.set i (some x)) H1) :=
    rdE_bind (k := fun σ d => M.pure (Fl.nx (σ.set i (some d)))) a p fun d S1 μ1 H1 v s a1 r q => (Post.here (W := W) a1.lnk q) _ (a1.en.set r)
  rw [exec_Assign_Name_used _ _ _ _ hsw]
  refine wpAny_bind (wpAny_standAt (wpAny_bind ?_))
  show wpAny _ X.A (do let _ ← comprehension (.ListComp elt [⟨tg, iter, ifs, 0⟩] scope pos) scope X.env (firstIterPos [⟨tg, iter, ifs, 0⟩] pos) (newList []) false (eval iter X.env) (some (assign (.Name y py) X.env))) _ _ s
  refine wpAny_bind (wpAny_mono (lcD (Qf := fun _ s' => SP X pins Dn .next s') hc hN hf I hi ok pc hs h fun L C s' m H' I' q hn f => ?_) (fun _ s' hq => wpAny_pure (wpAny_pure hq)) fun _ _ x => x)
  show wpAny _ _ (assign (.Name y py) X.env (.ref L)) _ _ _
  refine wpAny_assign_Name (store_ok2 (v := V.ref L) I' hN hy (.inl hyl) rfl (fun s2 I2 ⟨a, sb, ha⟩ => ?_) (.inr hyl))
  obtain ⟨f0, f1, f2, f3, f4, f5⟩ := f
  have haC : C ≠ a := by
    rcases ha with z | z
    · rw [z]; exact f1
    · exact fun e => f4 y a z e.symm
  refine ⟨m, hn.sameBut sb haC, fun h3 sb3 => ?_⟩
  exact ⟨_, H', I2.turned (t' := s2.toks) (fun b o hb e => (sb3.2 b hb).trans e) f0 f1 f3 f4 f5, q⟩
end
end Fd

set_option Elab.async false
set_option linter.all false
set_option maxRecDepth 100000
set_option maxHeartbeats 1000000
namespace Fd
open PySem PySem.Spec PyProof.Rows L2
/-! ### built-ins by values -/
def itA (S : Sto) (d : D) : Option (List D) := (tupD d).or (seqL S d)
section
variable {G : Gx} {μ : Nat → Addr} {S : Sto} {H : Hp}
theorem itA_ok (L : Lnk G μ S H) {d : D} {v : V} {ds : List D} (r : RV G μ S.n H d v) (e : itA S d = some ds) : ∃ a vs, v = .ref a ∧ (SqL G.K H a vs ∨ SqT G.K H a vs) ∧ RVs G μ S.n H ds vs := by
  unfold itA at e
  cases e1 : tupD d with
  | some xs =>
    rw [e1] at e
    cases e
    obtain ⟨a, vs, h1, h2, h3⟩ := tupD_ok r e1
    exact ⟨a, vs, h1, .inr h2, h3⟩
  | none =>
    rw [e1] at e
    have e : seqL S d = some ds := e
    obtain ⟨a, vs, h1, h2, h3⟩ := seqL_ok L r e
    exact ⟨a, vs, h1, .inl (.inl h2), h3⟩
theorem rvs1 {d : D} {vs : List V} {n : Nat} (r : RVs G μ n H [d] vs) : ∃ v, vs = [v] ∧ RV G μ n H d v := by
  obtain ⟨v, r', e, h1, h2⟩ := r
  have h2 : r' = [] := h2
  subst h2 e
  exact ⟨v, rfl, h1⟩
theorem rvs2 {d e : D} {vs : List V} {n : Nat} (r : RVs G μ n H [d, e] vs) : ∃ v w, vs = [v, w] ∧ RV G μ n H d v ∧ RV G μ n H e w := by
  obtain ⟨v, r', e1, h1, h2⟩ := r
  obtain ⟨w, e2, h3⟩ := rvs1 h2
  subst e1 e2
  exact ⟨v, w, rfl, h1, h3⟩
end
section
variable {X : Cx} {G : Gx} {W : XK}
/-! ### len -/
theorem call_len_rd : CallR X (.builtin "len") (fun xs H Q => ∃ a kvs, xs = [V.ref a] ∧ Rd H a (.dK kvs) ∧ Q (.int (kvs.length : Int)) H) := by
  intro pins s σ H xs us Q I r h
  obtain ⟨a, kvs, rfl, e, q⟩ := h
  rw [Vals.ref1 r]
  exact d_len I e fun t s' I' => ⟨.int _, H, I', ⟨t, rfl⟩, q⟩
def lenC : List D → M D := fun ds S => match ds with
  | [d] => (match itA S d with
    | some xs => .ok (.int xs.length) S
    | none => (match d with
      | .str z => if z.length ≤ sizeLine then .ok (.int z.length) S else .stk
      | _ => (match dctD S d with
        | some (false, kvs) => .ok (.int kvs.length) S
        | _ => .stk)))
  | _ => .stk
theorem cd_len (hK : G.K = X.K) : CallD X G W (.builtin "len") lenC := by
  refine callR_imp (CallR.or call_len call_len_rd) fun vs H Q ⟨ds, S, μ, L, r, p⟩ => ?_
  unfold lenC at p
  match ds, r, p with
  | [d], r, p =>
    obtain ⟨v, rfl, rd⟩ := rvs1 r
    simp only at p
    cases e1 : itA S d with
    | some xs =>
      rw [e1] at p
      obtain ⟨a, us, rfl, h1, h2⟩ := itA_ok L rd e1
      rw [hK] at h1
      refine .inl ⟨_, us.length, rfl, ?_, (Post.here (W := W) L p) _ (by show V.int _ = V.int _; rw [h2.length])⟩
      exact h1.imp (fun z => ⟨us, z, rfl⟩) fun z => ⟨us, z, rfl⟩
    | none =>
      rw [e1] at p
      have go : (match dctD S d with | some (false, kvs) => R.ok (D.int kvs.length) S | _ => R.stk) = R.stk ∨ ∃ kvs, dctD S d = some (false, kvs) := by
        cases e2 : dctD S d with
        | none => exact .inl rfl
        | some q =>
          obtain ⟨t, kvs⟩ := q
          cases t
          · exact .inr ⟨kvs, rfl⟩
          · exact .inl rfl
      have fin : ∀ kvs, dctD S d = some (false, kvs) → Post G μ S H W (WQ G Q) (.ok (.int kvs.length) S) → ∃ a kvs, [v] = [V.ref a] ∧ Rd H a (.dK kvs) ∧ Q (.int (kvs.length : Int)) H := fun kvs e2 p => by
        obtain ⟨a, us, o, rfl, h2, h3, h4⟩ := dctD_ok L rd e2
        cases h3 with
        | k l => exact ⟨a, l, rfl, h2, (Post.here (W := W) L p) _ (by show V.int _ = V.int _; rw [h4.length, List.length_map])⟩
      cases d with
      | str z =>
        have rd : v = .str z := rd
        subst rd
        simp only at p
        by_cases hz : z.length ≤ sizeLine
        · rw [if_pos hz] at p
          exact .inl ⟨_, z.length, rfl, ⟨hz, rfl⟩, (Post.here (W := W) L p) _ rfl⟩
        · rw [if_neg hz] at p; exact p.elim
      | _ =>
        simp only at p
        rcases go with z | ⟨kvs, z⟩
        · rw [z] at p; exact p.elim
        · rw [z] at p
          exact .inr (fin kvs z p)
  | [], _, p => exact p.elim
  | _ :: _ :: _, _, p => exact p.elim
/-! ### numbers and texts -/
def absC : List D → M D := fun ds => match ds with
  | [.int i] => M.pure (.int (if i < 0 then -i else i))
  | _ => M.stk
theorem cd_abs : CallD X G W (.builtin "abs") absC := callR_imp call_abs fun vs H Q ⟨ds, S, μ, L, r, p⟩ => by
  unfold absC at p
  split at p
  · obtain ⟨v, rfl, rd⟩ := rvs1 r
    exact ⟨_, by rw [show v = .int _ from rd], (Post.here (W := W) L p) _ rfl⟩
  · exact p.elim
def intC : List D → M D := fun ds => match ds with
  | [.int i] => M.pure (.int i)
  | [.bl k] => M.pure (.int (if k then 1 else 0))
  | _ => M.stk
theorem cd_int : CallD X G W (.type "int") intC := callR_imp call_int1 fun vs H Q ⟨ds, S, μ, L, r, p⟩ => by
  unfold intC at p
  split at p
  · obtain ⟨v, rfl, rd⟩ := rvs1 r
    exact .inl ⟨_, by rw [show v = .int _ from rd], (Post.here (W := W) L p) _ rfl⟩
  · obtain ⟨v, rfl, rd⟩ := rvs1 r
    exact .inr ⟨_, by rw [show v = .bl _ from rd], (Post.here (W := W) L p) _ rfl⟩
  · exact p.elim
def strC : List D → M D := fun ds => match ds with
  | [.int i] => if i.natAbs.log2 < 1920 then M.pure (.str (toString i)) else M.stk
  | _ => M.stk
theorem cd_str : CallD X G W (.type "str") strC := callR_imp call_str_int fun vs H Q ⟨ds, S, μ, L, r, p⟩ => by
  unfold strC at p
  split at p
  · rename_i i
    obtain ⟨v, rfl, rd⟩ := rvs1 r
    by_cases h : i.natAbs.log2 < 1920
    · rw [if_pos h] at p
      exact ⟨i, by rw [show v = .int _ from rd], h, (Post.here (W := W) L p) _ rfl⟩
    · rw [if_neg h] at p; exact p.elim
  · exact p.elim
def min2C : List D → M D := fun ds => match ds with
  | [.int i, .int j] => M.pure (.int (if j < i then j else i))
  | _ => M.stk
def max2C : List D → M D := fun ds => match ds with
  | [.int i, .int j] => M.pure (.int (if j > i then j else i))
  | _ => M.stk
theorem cd_min2 (hc : X.calm = true) : CallD X G W (.builtin "min") min2C := callR_imp (call_min2 hc) fun vs H Q ⟨ds, S, μ, L, r, p⟩ => by
  unfold min2C at p
  split at p
  · obtain ⟨v, w, rfl, r1, r2⟩ := rvs2 r
    exact ⟨_, _, by rw [show v = .int _ from r1, show w = .int _ from r2], (Post.here (W := W) L p) _ rfl⟩
  · exact p.elim
theorem cd_max2 (hc : X.calm = true) : CallD X G W (.builtin "max") max2C := callR_imp (call_max2 hc) fun vs H Q ⟨ds, S, μ, L, r, p⟩ => by
  unfold max2C at p
  split at p
  · obtain ⟨v, w, rfl, r1, r2⟩ := rvs2 r
    exact ⟨_, _, by rw [show v = .int _ from r1, show w = .int _ from r2], (Post.here (W := W) L p) _ rfl⟩
  · exact p.elim
def allInts (ds : List D) : Bool := ds.all fun d => match d with
  | .int _ => true
  | _ => false
theorem rvs_ints {μ : Nat → Addr} {n : Nat} {H : Hp} : ∀ {ds : List D} {vs : List V}, RVs G μ n H ds vs → allInts ds = true → vs = (ds.map dI).map V.int
  | [], _, h, _ => h
  | d :: ds, _, ⟨v, r, e, h1, h2⟩, ha => by
    unfold allInts at ha
    rw [List.all_cons, Bool.and_eq_true] at ha
    subst e
    rw [List.map_cons, List.map_cons, ← rvs_ints h2 ha.2]
    cases d with
    | int i => rw [show v = .int i from h1]; rfl
    | _ => exact absurd ha.1 Bool.false_ne_true
def sumC : List D → M D := fun ds S => match ds with
  | [d] => (match seqL S d with
    | some xs => if allInts xs = true then .ok (.int (xs.map dI).sum) S else .stk
    | none => .stk)
  | _ => .stk
theorem cd_sum (hc : X.calm = true) : CallD X G W (.builtin "sum") sumC := callR_imp (cr_sum hc) fun vs H Q ⟨ds, S, μ, L, r, p⟩ => by
  unfold sumC at p
  match ds, r, p with
  | [d], r, p =>
    obtain ⟨v, rfl, rd⟩ := rvs1 r
    simp only at p
    cases e1 : seqL S d with
    | none => rw [e1] at p; exact p.elim
    | some xs =>
      rw [e1] at p
      by_cases h : allInts xs = true
      · simp only [h, if_true] at p
        obtain ⟨a, us, rfl, h1, h2⟩ := seqL_ok L rd e1
        rw [rvs_ints h2 h] at h1
        exact ⟨a, xs.map dI, rfl, .inl h1, (Post.here (W := W) L p) _ rfl⟩
      · simp only [h, if_false] at p; exact p.elim
  | [], _, p => exact p.elim
  | _ :: _ :: _, _, p => exact p.elim
/-! ### list, tuple, dict -/
def listC (own : Bool) : List D → M D := fun ds S => match ds with
  | [d] => (match itA S d with
    | some xs => if own = true then newL xs S else .ok (.lst xs) S
    | none => (match dctD S d with
      | some (false, kvs) => if own = true then newL (kvs.map fun p => dkD p.1) S else .ok (.lst (kvs.map fun p => dkD p.1)) S
      | _ => .stk))
  | _ => .stk
theorem mk_lst {μ : Nat → Addr} {S : Sto} {H : Hp} {Q : VK} (L : Lnk G μ S H) {own : Bool} {ds : List D} {vs : List V} (r : RVs G μ S.n H ds vs) (p : Post G μ S H W (WQ G Q) ((if own = true then newL ds S else .ok (.lst ds) S))) : ∀ l, H l = none → Q (.ref l) (upd H l (.lst vs)) := fun l hl => by
  cases own with
  | true => exact Post.step (own_lst L hl r) p _ rv_own
  | false => exact Post.step (Stp.new L hl) p _ (new_lst L hl r)
theorem rvs_keys {μ : Nat → Addr} {n : Nat} {H : Hp} : ∀ {kvs : List (DK × D)} {l : List (Key × V)}, RVk G μ n H kvs (l.map fun p => (DK.k p.1, p.2)) → RVs G μ n H (kvs.map fun p => dkD p.1) (l.map fun kv => kV kv.1)
  | [], [], _ => rfl
  | [], _ :: _, h => by cases (show _ = _ from h)
  | (k, d) :: kvs, [], ⟨v, r, e, _⟩ => by cases e
  | (k, d) :: kvs, (k', v') :: l, ⟨v, r, e, h1, h2⟩ => by
    rw [List.map_cons] at e
    injection e with e1 e2
    injection e1 with e3 e4
    subst e2 e3
    refine ⟨kV k', l.map fun kv => kV kv.1, rfl, ?_, rvs_keys h2⟩
    cases k' <;> rfl
theorem cd_list (own : Bool) (hK : G.K = X.K) (hc : X.calm = true) : CallD X G W (.type "list") (listC own) := by
  refine callR_imp (CallR.or call_list_of (call_listD hc)) fun vs H Q ⟨ds, S, μ, L, r, p⟩ => ?_
  unfold listC at p
  match ds, r, p with
  | [d], r, p =>
    obtain ⟨v, rfl, rd⟩ := rvs1 r
    simp only at p
    cases e1 : itA S d with
    | some xs =>
      rw [e1] at p
      obtain ⟨a, us, rfl, h1, h2⟩ := itA_ok L rd e1
      rw [hK] at h1
      exact .inl ⟨a, us, rfl, h1, mk_lst L h2 p⟩
    | none =>
      rw [e1] at p
      cases e2 : dctD S d with
      | none => rw [e2] at p; exact p.elim
      | some q =>
        obtain ⟨t, kvs⟩ := q
        cases t with
        | true => rw [e2] at p; exact p.elim
        | false =>
          rw [e2] at p
          obtain ⟨a, us, o, rfl, h2, h3, h4⟩ := dctD_ok L rd e2
          cases h3 with
          | k l => exact .inr ⟨a, l, rfl, h2, mk_lst L (rvs_keys h4) p⟩
  | [], _, p => exact p.elim
  | _ :: _ :: _, _, p => exact p.elim
def tupC : List D → M D := fun ds S => match ds with
  | [d] => (match tupD d with
    | some _ => .ok d S
    | none => (match seqL S d with
      | some xs => .ok (.tup xs) S
      | none => .stk))
  | _ => .stk
theorem cd_tup (hK : G.K = X.K) : CallD X G W (.type "tuple") tupC := by
  refine callR_imp call_tuple_of fun vs H Q ⟨ds, S, μ, L, r, p⟩ => ?_
  unfold tupC at p
  match ds, r, p with
  | [d], r, p =>
    obtain ⟨v, rfl, rd⟩ := rvs1 r
    simp only at p
    cases e1 : tupD d with
    | some xs =>
      rw [e1] at p
      obtain ⟨a, us, rfl, h1, h2⟩ := tupD_ok rd e1
      rw [hK] at h1
      exact ⟨a, us, rfl, .inr ⟨h1, (Post.here (W := W) L p) _ rd⟩⟩
    | none =>
      rw [e1] at p
      cases e2 : seqL S d with
      | none => rw [e2] at p; exact p.elim
      | some xs =>
        rw [e2] at p
        obtain ⟨a, us, rfl, h1, h2⟩ := seqL_ok L rd e2
        exact ⟨a, us, rfl, .inl ⟨.inl h1, fun l hl => Post.step (Stp.new L hl) p _ (new_tup L hl h2)⟩⟩
  | [], _, p => exact p.elim
  | _ :: _ :: _, _, p => exact p.elim
end
end Fd

set_option Elab.async false
set_option linter.all false
set_option maxRecDepth 100000
set_option maxHeartbeats 1000000
namespace Fd
open PySem PySem.Spec PyProof.Rows L2
/-! ### sorted, min, max of data -/
def pysD (S : Sto) (ds : List D) : Option (List PyData) := ds.mapM (toPy S 12)
def alikeC (ps : List PyData) : Bool := ps.all fun a => ps.all fun b => PySem.W.alike a b
def isNonP : PyData → Bool
  | .none => true
  | _ => false
def tupN : PyData → Bool
  | .tuple (_ :: _) => true
  | _ => false
def tupAny : PyData → Bool
  | .tuple _ => true
  | _ => false
def sortableC (ps : List PyData) : Bool := ps.all tupN || ps.all fun d => !isNonP d && !tupAny d
theorem sortable_of {ps : List PyData} (h : sortableC ps = true) : PySem.W.Sortable ps := by
  unfold sortableC at h
  rw [Bool.or_eq_true, List.all_eq_true, List.all_eq_true] at h
  refine h.imp (fun z d hd => ?_) fun z d hd => ?_
  · have q := z d hd
    cases d with
    | tuple xs =>
      cases xs with
      | nil => cases q
      | cons x r => exact ⟨x, r, rfl⟩
    | _ => cases q
  · have q := z d hd
    rw [Bool.and_eq_true] at q
    refine ⟨fun e => ?_, fun xs e => ?_⟩
    · rw [e] at q; exact absurd q.1 Bool.false_ne_true
    · rw [e] at q; exact absurd q.2 Bool.false_ne_true
theorem alike_of {ps : List PyData} (h : alikeC ps = true) : PySem.W.AllAlike ps := fun d hd d' hd' => by
  unfold alikeC at h
  rw [List.all_eq_true] at h
  have q := h d hd
  rw [List.all_eq_true] at q
  exact q d' hd'
section
variable {G : Gx} {μ : Nat → Addr} {S : Sto} {H : Hp}
theorem depth_mem {d : PyData} : ∀ {ps : List PyData}, d ∈ ps → d.depth ≤ PyData.depthAll ps
  | p :: ps, h => by
    show d.depth ≤ max p.depth (PyData.depthAll ps)
    rcases List.mem_cons.mp h with z | z
    · rw [z]; exact Nat.le_max_left _ _
    · exact Nat.le_trans (depth_mem z) (Nat.le_max_right _ _)
/-- the data, their readings, their values, together -/
theorem data_rows {X : Cx} {pins : List (Addr × Obj)} {σ : L2.St} {s : Shared} (hK : G.K = X.K) (I : Inv X pins σ H s) (L : Lnk G μ S H) : ∀ {ds : List D} {vs : List V} {us : List Value} {ps : List PyData}, RVs G μ S.n H ds vs → Vals vs us → pysD S ds = some ps →
    ds.length = ps.length ∧ (ds.zip ps).length = vs.length ∧ PySem.W.EachIs (fun u (b : (D × PyData) × V) => RelV b.2 u) us ((ds.zip ps).zip vs) ∧ PySem.W.EachIs (fun u (b : (D × PyData) × V) => ∃ as, Reads s.heap u b.1.2 as) us ((ds.zip ps).zip vs) ∧ ∀ b ∈ (ds.zip ps).zip vs, RV G μ S.n H b.1.1 b.2 ∧ b.1.2.depth ≤ 12
  | [], vs, us, ps, r, rv, e => by
    have r : vs = [] := r
    subst r
    cases rv
    unfold pysD at e
    rw [List.mapM_nil] at e
    cases e
    exact ⟨rfl, rfl, .nil, .nil, fun b hb => absurd hb (by simp)⟩
  | d :: ds, _, us, ps, ⟨v, r', e1, h1, h2⟩, rv, e => by
    subst e1
    unfold pysD at e
    rw [List.mapM_cons] at e
    cases e3 : toPy S 12 d with
    | none => rw [e3] at e; cases e
    | some p =>
      cases e4 : ds.mapM (toPy S 12) with
      | none => rw [e3, e4] at e; cases e
      | some qs =>
        rw [e3, e4] at e
        have e : some (p :: qs) = some ps := e
        cases e
        cases rv with
        | cons ru rr =>
          obtain ⟨i1, i2, i3, i4, i5⟩ := data_rows hK I L h2 rr (show pysD S ds = some qs from e4)
          obtain ⟨a1, a2, a3⟩ := toPy_ok L 12 d v p h1 e3
          rw [hK] at a1
          obtain ⟨as, ra⟩ := Dp.reads I p v _ a1 ru
          refine ⟨by rw [List.length_cons, List.length_cons, i1], by rw [List.zip_cons_cons, List.length_cons, List.length_cons, i2], .cons ru i3, .cons ⟨as, ra⟩ i4, fun b hb => ?_⟩
          rw [List.zip_cons_cons, List.zip_cons_cons] at hb
          rcases List.mem_cons.mp hb with z | z
          · rw [z]; exact ⟨h1, a3⟩
          · exact i5 b z
theorem each_vals : ∀ {out : List Value} {bs : List ((D × PyData) × V)}, PySem.W.EachIs (fun u (b : (D × PyData) × V) => RelV b.2 u) out bs → Vals (bs.map (·.2)) out
  | _, _, .nil => .nil
  | _, _, .cons h t => .cons h (each_vals t)
theorem rows_rvs : ∀ {bs : List ((D × PyData) × V)}, (∀ b ∈ bs, RV G μ S.n H b.1.1 b.2) → RVs G μ S.n H (bs.map (·.1.1)) (bs.map (·.2))
  | [], _ => rfl
  | b :: bs, h => ⟨b.2, bs.map (·.2), rfl, h b List.mem_cons_self, rows_rvs fun c hc => h c (List.mem_cons_of_mem _ hc)⟩
theorem zip_fst {α β : Type} : ∀ {as : List α} {bs : List β}, as.length = bs.length → (as.zip bs).map (·.1) = as
  | [], _, _ => rfl
  | a :: as, [], h => by cases h
  | a :: as, b :: bs, h => by
    rw [List.zip_cons_cons, List.map_cons, zip_fst (Nat.succ.inj h)]
end
/-- a stable sort by insertion -/
def insS {α : Type} (le : α → α → Bool) (a : α) : List α → List α
  | [] => [a]
  | b :: l => if le a b = true then a :: b :: l else b :: insS le a l
def isort {α : Type} (le : α → α → Bool) : List α → List α
  | [] => []
  | a :: l => insS le a (isort le l)
theorem insS_at {α : Type} {le : α → α → Bool} {a : α} {l₂ : List α} (h2 : ∀ b ∈ l₂, le a b = true) : ∀ {l₁ : List α}, (∀ b ∈ l₁, le a b = false) → insS le a (l₁ ++ l₂) = l₁ ++ a :: l₂
  | [], _ => by
    cases l₂ with
    | nil => rfl
    | cons b l => show (if le a b = true then a :: b :: l else _) = _; rw [if_pos (h2 b List.mem_cons_self)]; rfl
  | b :: l, h => by
    show (if le a b = true then _ else b :: insS le a (l ++ l₂)) = _
    rw [h b List.mem_cons_self, if_neg Bool.false_ne_true, insS_at h2 fun c hc => h c (List.mem_cons_of_mem _ hc)]
    rfl
theorem isort_eq {α : Type} {le : α → α → Bool} (tr : ∀ a b c, le a b = true → le b c = true → le a c = true) (to : ∀ a b, (le a b || le b a) = true) : ∀ l : List α, l.mergeSort le = isort le l
  | [] => List.mergeSort_nil
  | a :: l => by
    obtain ⟨l₁, l₂, h1, h2, h3⟩ := List.mergeSort_cons (le := le) tr to a l
    have hs := List.pairwise_mergeSort (le := le) tr to (a :: l)
    rw [h1] at hs ⊢
    show _ = insS le a (isort le l)
    rw [← isort_eq tr to l, h2]
    refine (insS_at (fun b hb => ?_) fun b hb => by simpa using h3 b hb).symm
    exact (List.pairwise_cons.mp (List.pairwise_append.mp hs).2.1).1 b hb
def leP (a b : D × PyData) : Bool := !PySem.W.dataLt b.2 a.2
def sortP (l : List (D × PyData)) : List D := (isort leP l).map (·.1)
theorem sortP_eq (l : List (D × PyData)) : (l.mergeSort fun a b => !PySem.W.dataLt b.2 a.2).map (·.1) = sortP l := by
  have e := isort_eq (le := leP) (fun a b c h1 h2 => by
    unfold leP at *
    cases h : PySem.W.dataLt c.2 a.2 with
    | false => rfl
    | true =>
      rcases PyProof.Rows.lex_negTrans (O := PyProof.Rows.itemOrd) _ (PySem.W.keyToks b.2) _ h with z | z
      · have z : PySem.W.dataLt c.2 b.2 = true := z
        rw [z] at h2; cases h2
      · have z : PySem.W.dataLt b.2 a.2 = true := z
        rw [z] at h1; cases h1) (fun a b => by
    unfold leP
    cases h1 : PySem.W.dataLt b.2 a.2 with
    | false => rfl
    | true =>
      cases h2 : PySem.W.dataLt a.2 b.2 with
      | false => rfl
      | true =>
        have := PyProof.Rows.lex_trans (O := PyProof.Rows.itemOrd) _ _ _ h1 h2
        rw [PyProof.Rows.lex_irrefl] at this
        cases this) l
  unfold sortP
  rw [← e]
  rfl
def sortedC (own : Bool) : List D → M D := fun ds S => match ds with
  | [d] => (match seqL S d with
    | some xs => (match pysD S xs with
      | some ps => if (alikeC ps && sortableC ps) = true then (if own = true then newL (sortP (xs.zip ps)) S else .ok (.lst (sortP (xs.zip ps))) S) else .stk
      | none => .stk)
    | none => .stk)
  | _ => .stk
section
variable {X : Cx} {G : Gx} {W : XK}
theorem cd_sorted (own : Bool) (hK : G.K = X.K) (hu : X.A.units + 64 < cLine) : CallD X G W (.builtin "sorted") (sortedC own) := by
  intro pins s σ H vs us Q I rv ⟨ds, S, μ, L, r, p⟩
  unfold sortedC at p
  match ds, r, p with
  | [d], r, p =>
    obtain ⟨v, rfl, rd⟩ := rvs1 r
    simp only at p
    cases e1 : seqL S d with
    | none => rw [e1] at p; exact p.elim
    | some xs =>
      rw [e1] at p
      simp only at p
      cases e2 : pysD S xs with
      | none => rw [e2] at p; exact p.elim
      | some ps =>
        rw [e2] at p
        simp only at p
        by_cases hc : (alikeC ps && sortableC ps) = true
        · rw [if_pos hc] at p
          rw [Bool.and_eq_true] at hc
          obtain ⟨a, ws, rfl, h1, h2⟩ := seqL_ok L rd e1
          rw [Vals.ref1 rv]
          obtain ⟨its, rw', hl, hz⟩ := I.list (X := X) (H := H) (a := a) (xs := ws) (.inl h1)
          obtain ⟨i1, i2, i3, i4, i5⟩ := data_rows hK I L h2 rw' e2
          have hmap : ((xs.zip ps).zip ws).map (·.1) = xs.zip ps := zip_fst i2
          have hps : ((xs.zip ps).zip ws).map (fun b => b.1.2) = ps := by
            have : ((xs.zip ps).zip ws).map (fun b => b.1.2) = (((xs.zip ps).zip ws).map (·.1)).map (·.2) := by rw [List.map_map]; rfl
            rw [this, hmap, List.map_snd_zip (Nat.le_of_eq i1.symm)]
          have hlen : ((xs.zip ps).zip ws).length = ws.length := by rw [List.length_zip, i2, Nat.min_self]
          refine PySem.W.sorted_data (R := fun u b => RelV b.2 u) (enc := fun b : (D × PyData) × V => b.1.2) (bs := (xs.zip ps).zip ws) hl.isList i3 i4 (by rw [hps]; exact alike_of hc.1) (by rw [hps]; exact sortable_of hc.2) (by rw [hlen]; exact hz) (fun b hb => by have := (i5 b hb).2; omega) fun out ho eo => ?_
          generalize hbs : ((xs.zip ps).zip ws).mergeSort (PySem.W.dataLe false fun b : (D × PyData) × V => b.1.2) = bs at eo
          have hmem : ∀ b ∈ bs, b ∈ (xs.zip ps).zip ws := fun b hb => by
            rw [← hbs] at hb
            exact List.mem_mergeSort.mp hb
          have hsort : bs.map (·.1.1) = sortP (xs.zip ps) := by
            have e5 : bs.map (·.1.1) = (bs.map (·.1)).map (·.1) := by rw [List.map_map]; rfl
            have e7 := List.map_mergeSort (r := PySem.W.dataLe false fun b : (D × PyData) × V => b.1.2) (s := fun a b : D × PyData => !PySem.W.dataLt b.2 a.2) (f := fun b : (D × PyData) × V => b.1) (l := (xs.zip ps).zip ws) (fun a _ b _ => rfl)
            rw [e5, ← hbs, e7, hmap]
            exact sortP_eq _
          have rr : RVs G μ S.n H (sortP (xs.zip ps)) (bs.map (·.2)) := by
            rw [← hsort]
            exact rows_rvs fun b hb => (i5 b (hmem b hb)).1
          obtain ⟨c, hat⟩ := sortedAll_at s.heap its (List.toArray out)
          have hn : H (s.heap.objs.size + 1) = none := I.hok.fresh (Nat.le_succ _)
          have hvv := each_vals eo
          refine ⟨.ref (s.heap.objs.size + 1), upd H (s.heap.objs.size + 1) (.lst (bs.map (·.2))), ?_, rfl, mk_lst L rr p _ hn⟩
          exact I.laid (t' := s.toks) (fun b o e => sortedAll_old e) (Nat.le_succ _) ⟨by rw [List.length_map, ← hbs, List.length_mergeSort, hlen]; exact hz, out, c, hvv, hat⟩
        · rw [if_neg hc] at p; exact p.elim
  | [], _, p => exact p.elim
  | _ :: _ :: _, _, p => exact p.elim
/-! ### min, max -/
def bestP (f : PyData → PyData → Bool) : List (D × PyData) → Option D
  | [] => none
  | x :: xs => some (xs.foldl (fun a y => if f y.2 a.2 = true then y else a) x).1
def bestC (f : PyData → PyData → Bool) : List D → M D := fun ds S => match ds with
  | [d] => (match seqL S d with
    | some xs => (match pysD S xs with
      | some ps => if (alikeC ps && !ps.any isNonP) = true then (match bestP f (xs.zip ps) with
        | some d => .ok d S
        | none => .stk) else .stk
      | none => .stk)
    | none => .stk)
  | _ => .stk
def gtP : PyData → PyData → Bool := fun a b => PySem.W.dataLt b a
theorem alikeAll_of {ps : List PyData} (h : (alikeC ps && !ps.any isNonP) = true) : PySem.W.AlikeAll ps := by
  rw [Bool.and_eq_true] at h
  refine ⟨alike_of h.1, fun x hx e => ?_⟩
  have q := h.2
  rw [Bool.not_eq_true', List.any_eq_false] at q
  exact q x hx (by rw [e]; rfl)
theorem getD_zip (xs : List D) (ps : List PyData) (h : xs.length = ps.length) (i : Nat) : ((xs.zip ps).getD i (.non, .none)).2 = ps.getD i .none ∧ ((xs.zip ps).getD i (.non, .none)).1 = xs.getD i .non := by
  induction xs generalizing ps i with
  | nil =>
    cases ps with
    | nil => exact ⟨rfl, rfl⟩
    | cons _ _ => cases h
  | cons x xs ih =>
    cases ps with
    | nil => cases h
    | cons p ps =>
      cases i with
      | zero => exact ⟨rfl, rfl⟩
      | succ i => exact ih ps (Nat.succ.inj h) i
theorem each_reads {h : Heap} : ∀ {us : List Value} {bs : List ((D × PyData) × V)}, PySem.W.EachIs (fun u (b : (D × PyData) × V) => ∃ as, Reads h u b.1.2 as) us bs → ∃ as, ReadsAll h us (bs.map (·.1.2)) as
  | _, _, .nil => ⟨_, .nil⟩
  | _, _, .cons ⟨as, h⟩ t => let ⟨bs, q⟩ := each_reads t; ⟨_, .cons h q⟩
/-- what the best one is -/
theorem best_at (f : PyData → PyData → Bool) {xs : List D} {ps : List PyData} {x : D} (hl : xs.length = ps.length) (e : bestP f (xs.zip ps) = some x) : 0 < ps.length ∧ xs[PySem.argBest (fun i j => f (ps.getD i .none) (ps.getD j .none)) (ps.length - 1)]? = some x := by
  cases xs with
  | nil => cases e
  | cons y ys =>
    cases ps with
    | nil => cases hl
    | cons p ps =>
      have hl' : ys.length = ps.length := Nat.succ.inj hl
      have hlz : (ys.zip ps).length = ps.length := by rw [List.length_zip, hl', Nat.min_self]
      refine ⟨Nat.succ_pos _, ?_⟩
      have q := PySem.W.argBest_fold (fun a b : D × PyData => f a.2 b.2) (.non, .none) (y, p) (ys.zip ps) ps.length (Nat.le_of_eq hlz.symm)
      have hfun : (fun i j => f (((y, p) :: ys.zip ps).getD i (.non, .none)).2 (((y, p) :: ys.zip ps).getD j (.non, .none)).2) = fun i j => f ((p :: ps).getD i .none) ((p :: ps).getD j .none) := by
        funext i j
        rw [show (y, p) :: ys.zip ps = (y :: ys).zip (p :: ps) from rfl, (getD_zip (y :: ys) (p :: ps) hl i).1, (getD_zip (y :: ys) (p :: ps) hl j).1]
      rw [hfun] at q
      obtain ⟨q1, q2⟩ := q
      rw [show ps.length = (ys.zip ps).length from hlz.symm, List.take_length] at q2
      rw [hlz] at q2
      have e : some (((ys.zip ps).foldl (fun a z => if f z.2 a.2 = true then z else a) (y, p)).1) = some x := e
      rw [← q2] at e
      have e6 := (getD_zip (y :: ys) (p :: ps) hl (PySem.argBest (fun i j => f ((p :: ps).getD i .none) ((p :: ps).getD j .none)) ps.length)).2
      rw [show (y :: ys).zip (p :: ps) = (y, p) :: ys.zip ps from rfl] at e6
      rw [e6] at e
      show (y :: ys)[PySem.argBest _ (ps.length + 1 - 1)]? = some x
      rw [Nat.add_sub_cancel]
      have hlt : PySem.argBest (fun i j => f ((p :: ps).getD i .none) ((p :: ps).getD j .none)) ps.length < (y :: ys).length := by
        rw [List.length_cons, hl']
        exact Nat.lt_succ_of_le q1
      rw [List.getElem?_eq_getElem hlt]
      rw [List.getD_eq_getElem?_getD, List.getElem?_eq_getElem hlt] at e
      exact e
theorem cd_minD (hK : G.K = X.K) (hc : X.calm = true) (hu : X.A.units + 64 < cLine) : CallD X G W (.builtin "min") (bestC PySem.W.dataLt) := by
  intro pins s σ H vs us Q I rv ⟨ds, S, μ, L, r, p⟩
  unfold bestC at p
  match ds, r, p with
  | [d], r, p =>
    obtain ⟨v, rfl, rd⟩ := rvs1 r
    simp only at p
    cases e1 : seqL S d with
    | none => rw [e1] at p; exact p.elim
    | some xs =>
      rw [e1] at p
      simp only at p
      cases e2 : pysD S xs with
      | none => rw [e2] at p; exact p.elim
      | some ps =>
        rw [e2] at p
        simp only at p
        by_cases hcc : (alikeC ps && !ps.any isNonP) = true
        · rw [if_pos hcc] at p
          cases e3 : bestP PySem.W.dataLt (xs.zip ps) with
          | none => rw [e3] at p; exact p.elim
          | some x =>
            rw [e3] at p
            obtain ⟨a, ws, rfl, h1, h2⟩ := seqL_ok L rd e1
            rw [Vals.ref1 rv]
            obtain ⟨its, rw', hl, hz⟩ := I.list (X := X) (H := H) (a := a) (xs := ws) (.inl h1)
            obtain ⟨i1, i2, i3, i4, i5⟩ := data_rows hK I L h2 rw' e2
            obtain ⟨as, ra⟩ := each_reads i4
            have hps : ((xs.zip ps).zip ws).map (fun b => b.1.2) = ps := by
              have : ((xs.zip ps).zip ws).map (fun b => b.1.2) = (((xs.zip ps).zip ws).map (·.1)).map (·.2) := by rw [List.map_map]; rfl
              rw [this, zip_fst i2, List.map_snd_zip (Nat.le_of_eq i1.symm)]
            rw [hps] at ra
            obtain ⟨b1, b2⟩ := best_at PySem.W.dataLt i1 e3
            have hn : its.toArray.size = ps.length := by
              have := rw'.length
              have := h2.length
              rw [List.size_toArray]; omega
            have hdep : PyData.depthAll ps ≤ 12 := (toPys_ok (fun d v py => toPy_ok L 12 d v py) xs ws ps h2 e2).2.2
            refine PySem.call_min_walkH (PySem.W.iter_listW (A := X.A.in1) (I.ok.hd hc) hl.isList fun s₂ e W' st hfp hw hk => ?_)
            refine ⟨_, _, _, _, _, _, _, s.heap, _, rfl, W', st, hfp, by omega, hw, hk, PySem.W.cmpIn_lt (A := X.A.in1) ra (alikeAll_of hcc) (by show X.A.units + 1 + _ < _; omega), fun v s' hP m => ?_⟩
            obtain ⟨h', tk, rfl, hk'⟩ := PySem.W.moved_old e rfl m
            rw [hn] at hP
            obtain ⟨wv, ew, rwv⟩ := rvs_get h2 b2
            obtain ⟨uu, eu, ruu⟩ := rw'.get ew
            have hP : its.toArray[PySem.argBest (fun i j => PySem.W.dataLt (ps.getD i .none) (ps.getD j .none)) (ps.length - 1)]? = some v := hP
            rw [show its.toArray[PySem.argBest (fun i j => PySem.W.dataLt (ps.getD i .none) (ps.getD j .none)) (ps.length - 1)]? = its[PySem.argBest (fun i j => PySem.W.dataLt (ps.getD i .none) (ps.getD j .none)) (ps.length - 1)]? by simp, eu] at hP
            cases hP
            exact ⟨wv, H, I.kept hk', ruu, (Post.here (W := W) L p) wv rwv⟩
        · rw [if_neg hcc] at p; exact p.elim
  | [], _, p => exact p.elim
  | _ :: _ :: _, _, p => exact p.elim
theorem cd_maxD (hK : G.K = X.K) (hc : X.calm = true) (hu : X.A.units + 64 < cLine) : CallD X G W (.builtin "max") (bestC gtP) := by
  intro pins s σ H vs us Q I rv ⟨ds, S, μ, L, r, p⟩
  unfold bestC at p
  match ds, r, p with
  | [d], r, p =>
    obtain ⟨v, rfl, rd⟩ := rvs1 r
    simp only at p
    cases e1 : seqL S d with
    | none => rw [e1] at p; exact p.elim
    | some xs =>
      rw [e1] at p
      simp only at p
      cases e2 : pysD S xs with
      | none => rw [e2] at p; exact p.elim
      | some ps =>
        rw [e2] at p
        simp only at p
        by_cases hcc : (alikeC ps && !ps.any isNonP) = true
        · rw [if_pos hcc] at p
          cases e3 : bestP gtP (xs.zip ps) with
          | none => rw [e3] at p; exact p.elim
          | some x =>
            rw [e3] at p
            obtain ⟨a, ws, rfl, h1, h2⟩ := seqL_ok L rd e1
            rw [Vals.ref1 rv]
            obtain ⟨its, rw', hl, hz⟩ := I.list (X := X) (H := H) (a := a) (xs := ws) (.inl h1)
            obtain ⟨i1, i2, i3, i4, i5⟩ := data_rows hK I L h2 rw' e2
            obtain ⟨as, ra⟩ := each_reads i4
            have hps : ((xs.zip ps).zip ws).map (fun b => b.1.2) = ps := by
              have : ((xs.zip ps).zip ws).map (fun b => b.1.2) = (((xs.zip ps).zip ws).map (·.1)).map (·.2) := by rw [List.map_map]; rfl
              rw [this, zip_fst i2, List.map_snd_zip (Nat.le_of_eq i1.symm)]
            rw [hps] at ra
            obtain ⟨b1, b2⟩ := best_at gtP i1 e3
            have hn : its.toArray.size = ps.length := by
              have := rw'.length
              have := h2.length
              rw [List.size_toArray]; omega
            have hdep : PyData.depthAll ps ≤ 12 := (toPys_ok (fun d v py => toPy_ok L 12 d v py) xs ws ps h2 e2).2.2
            refine PySem.call_max_walkH (PySem.W.iter_listW (A := X.A.in1) (I.ok.hd hc) hl.isList fun s₂ e W' st hfp hw hk => ?_)
            refine ⟨_, _, _, _, _, _, _, s.heap, _, rfl, W', st, hfp, by omega, hw, hk, PySem.W.cmpIn_gt (A := X.A.in1) ra (alikeAll_of hcc) (by show X.A.units + 1 + _ < _; omega), fun v s' hP m => ?_⟩
            obtain ⟨h', tk, rfl, hk'⟩ := PySem.W.moved_old e rfl m
            rw [hn] at hP
            obtain ⟨wv, ew, rwv⟩ := rvs_get h2 b2
            obtain ⟨uu, eu, ruu⟩ := rw'.get ew
            have hP : its.toArray[PySem.argBest (fun i j => gtP (ps.getD i .none) (ps.getD j .none)) (ps.length - 1)]? = some v := hP
            rw [show its.toArray[PySem.argBest (fun i j => gtP (ps.getD i .none) (ps.getD j .none)) (ps.length - 1)]? = its[PySem.argBest (fun i j => gtP (ps.getD i .none) (ps.getD j .none)) (ps.length - 1)]? by simp, eu] at hP
            cases hP
            exact ⟨wv, H, I.kept hk', ruu, (Post.here (W := W) L p) wv rwv⟩
        · rw [if_neg hcc] at p; exact p.elim
  | [], _, p => exact p.elim
  | _ :: _ :: _, _, p => exact p.elim
end
end Fd

set_option Elab.async false
set_option linter.all false
set_option maxRecDepth 100000
set_option maxHeartbeats 1000000
namespace Fd
open PySem PySem.Spec PyProof.Rows L2
section
variable {X : Cx} {G : Gx} {W : XK} {a b c e : Expr} {fa fb fc fe : En → M D} {pos : Pos}
/-! ### a chain of two comparisons -/
def chainV (o1 o2 : D → D → M D) (fa fb fc : En → M D) : En → M D := fun σ => fa σ >>= fun x => fb σ >>= fun y => o1 x y >>= fun z => asB z >>= fun k => if k = true then (fc σ >>= fun w => o2 y w) else M.pure (.bl false)
theorem rd_chain {o1 o2 : D → D → M D} : ∀ σ H Q, rdE G W (chainV o1 o2 fa fb fc) σ H Q → tChain (rd2 G W o1) (rd2 G W o2) (rdE G W fa) (rdE G W fb) (rdE G W fc) σ H Q := fun σ H Q ⟨σd, S, μ, a0, h⟩ => by
  refine rdE_bind (k := fun σ x => fb σ >>= fun y => o1 x y >>= fun z => asB z >>= fun k => if k = true then (fc σ >>= fun w => o2 y w) else M.pure (.bl false)) a0 h fun x S1 μ1 H1 v s1 a1 rv p => ?_
  refine rdE_bind (k := fun σ y => o1 x y >>= fun z => asB z >>= fun k => if k = true then (fc σ >>= fun w => o2 y w) else M.pure (.bl false)) a1 p fun y S2 μ2 H2 u s2 a2 ru p => ?_
  refine ⟨x, y, S2, μ2, a2.lnk, s2.rv a1.lnk rv, ru, (Post.bind (k := fun z => asB z >>= fun k => if k = true then (fc σd >>= fun w => o2 y w) else M.pure (.bl false)) p).mono fun z S3 μ3 H3 s3 p w rz => ?_⟩
  have a3 := a2.step s3
  obtain ⟨k, e1, q⟩ := rd_asB (Q := fun k H3 => if k = true then rdE G W fc σ H3 (fun w' H4 => rd2 G W o2 u w' H4 Q) else Q (.bl false) H3) a3.lnk rz ((Post.bind (k := fun k => if k = true then (fc σd >>= fun w => o2 y w) else M.pure (.bl false)) p).mono fun k S4 μ4 H4 s4 p4 => by
    have a4 := a3.step s4
    cases k with
    | false => exact (Post.here a4.lnk p4) _ rfl
    | true =>
      refine rdE_bind (k := fun _ w => o2 y w) a4 p4 fun w S5 μ5 H5 wv s5 a5 rw' p5 => ?_
      exact ⟨y, w, S5, μ5, a5.lnk, (s4.trans s5).rv a3.lnk (s3.rv a2.lnk ru), rw', p5⟩)
  exact ⟨k, e1, q⟩
theorem se_chain {op op' : CmpOp} {o1 o2 : D → D → M D} (h1 : OpD X G W (compareOp op) o1) (h2 : OpD X G W (compareOp op') o2) (ha : SE X G W a fa) (hb : SE X G W b fb) (hc : SE X G W c fc) (hm : lastMarks [op, op'] [b, c] = false := by with_unfolding_all rfl) : SE X G W (.Compare a [op, op'] [b, c] pos) (chainV o1 o2 fa fb fc) :=
  pe_imp (pe_chain h1 h2 ha hb hc hm) rd_chain
theorem st_chain {op op' : CmpOp} {o1 o2 : D → D → M D} (h1 : OpD X G W (compareOp op) o1) (h2 : OpD X G W (compareOp op') o2) (ha : SE X G W a fa) (hb : SE X G W b fb) (hc : SE X G W c fc) (hm : lastMarks [op, op'] [b, c] = false := by with_unfolding_all rfl) : STe X G W (.Compare a [op, op'] [b, c] pos) (tst1 (chainV o1 o2 fa fb fc)) :=
  pt_imp (pt_chain h1 h2 ha hb hc hm) fun σ H Q ⟨σd, S, μ, a0, h⟩ => rd_chain σ H _ (rdE_bind (k := fun _ => asB) a0 h fun d S1 μ1 H1 v s a1 rv h1 => rd_asB a1.lnk rv h1)
/-! ### powers, repeated lists -/
def powI : D → D → M D := ii (fun i j => decide (-(2 ^ 64) < i ∧ i < 2 ^ 64) && decide (0 ≤ j) && decide (j ≤ 64)) fun i j => .int (i ^ j.toNat)
/-- a list times an int -/
def repL : D → D → M D := fun x y S => match seqU S x, y with
  | some xs, .int k => if -(2 ^ 63) ≤ k ∧ k < 2 ^ 63 ∧ xs.length * k.toNat ≤ sizeLine then .ok (.lst (List.replicate k.toNat xs).flatten) S else .stk
  | _, _ => .stk
theorem od_powI : OpD X G W (binaryOp .Pow) powI := opR_imp op_pow (rd_ii (fun i j h => by
  simp only [Bool.and_eq_true, decide_eq_true_eq] at h
  exact ⟨h.1.2, by omega, by omega⟩) fun _ _ _ _ _ => rfl)
theorem rvs_rep {μ : Nat → Addr} {n : Nat} {H : Hp} {ds : List D} {vs : List V} (r : RVs G μ n H ds vs) : ∀ k : Nat, RVs G μ n H (List.replicate k ds).flatten (List.replicate k vs).flatten
  | 0 => rfl
  | k + 1 => by
    rw [List.replicate_succ, List.replicate_succ, List.flatten_cons, List.flatten_cons]
    exact r.append (rvs_rep r k)
theorem od_repL : OpD X G W (binaryOp .Mult) repL := opR_imp op_rep fun x y H Q ⟨d, e, S, μ, L, r1, r2, p⟩ => by
  unfold repL at p
  cases e1 : seqU S d with
  | none => rw [e1] at p; exact p.elim
  | some xs =>
    rw [e1] at p
    cases e with
    | int k =>
      simp only at p
      by_cases h : -(2 ^ 63) ≤ k ∧ k < 2 ^ 63 ∧ xs.length * k.toNat ≤ sizeLine
      · rw [if_pos h] at p
        obtain ⟨aa, vs, rfl, h1, q1⟩ := seqU_ok L r1 e1
        exact ⟨aa, k, vs, rfl, r2, h1, h.1, h.2.1, by rw [← q1.length]; exact h.2.2, fun q hq => Post.step (Stp.new L hq) p _ (new_lst L hq (rvs_rep q1 _))⟩
      · rw [if_neg h] at p; exact p.elim
    | _ => exact p.elim
/-! ### slices -/
def cutD (ds : List D) (lo hi : Option Int) : List D := (ds.drop (HT.sIx ds.length 0 lo)).take (HT.sIx ds.length ds.length hi - HT.sIx ds.length 0 lo)
def partD (f : Option (En → M D)) : En → M (Option Int) := fun σ => match f with
  | none => M.pure none
  | some f => f σ >>= fun d => match d with
    | .int i => M.pure (some i)
    | _ => M.stk
/-- a list, the module's too -/
def seqK (S : Sto) (x : D) : Option (List D) := match x with
  | .kl ds => some ds
  | d => seqL S d
theorem seqK_ok {μ : Nat → Addr} {S : Sto} {H : Hp} (L : Lnk G μ S H) {d : D} {v : V} {ds : List D} (r : RV G μ S.n H d v) (e : seqK S d = some ds) : ∃ a vs, v = .ref a ∧ SqL G.K H a vs ∧ RVs G μ S.n H ds vs := by
  cases d with
  | kl es =>
    cases e
    obtain ⟨a, vs, h1, h2, h3⟩ := r
    exact ⟨a, vs, h1, .inr h2, h3⟩
  | lst es => obtain ⟨a, vs, h1, h2, h3⟩ := seqL_ok L r e; exact ⟨a, vs, h1, .inl h2, h3⟩
  | ref l => obtain ⟨a, vs, h1, h2, h3⟩ := seqL_ok L r e; exact ⟨a, vs, h1, .inl h2, h3⟩
  | _ => cases e
def sliceC (x : D) (lo hi : Option Int) : M D := fun S => match tupD x with
  | some ds => if HT.sIx ds.length 0 lo = 0 ∧ HT.sIx ds.length ds.length hi = ds.length then .ok x S else .ok (.tup (cutD ds lo hi)) S
  | none => (match seqK S x with
    | some ds => .ok (.lst (cutD ds lo hi)) S
    | none => .stk)
def sliceE (fe : En → M D) (fl fh : Option (En → M D)) : En → M D := fun σ => fe σ >>= fun x => partD fl σ >>= fun l => partD fh σ >>= fun h => sliceC x l h
abbrev SP0 (X : Cx) (G : Gx) (W : XK) (e : Option Expr) (f : Option (En → M D)) : Prop := PO X e (fun σ H Q => ∃ σd S μ, At G σd S μ σ H ∧ Post G μ S H W (fun o _ _ H' => Q o H') (partD f σd S))
theorem po_imp {e : Option Expr} {t t' : TO} (h : PO X e t) (m : ∀ σ H Q, t' σ H Q → t σ H Q) : PO X e t' := ⟨fun pins s σ H Q I q => h.run pins s σ H Q I (m σ H Q q)⟩
theorem sp_none : SP0 X G W none none := po_imp po_none fun σ H Q ⟨σd, S, μ, a0, h⟩ => Post.here (W := W) a0.lnk h
theorem sp_some (h : SE X G W e fe) : SP0 X G W (some e) (some fe) := po_imp (po_some h) fun σ H Q ⟨σd, S, μ, a0, p⟩ => by
  refine rdE_bind (k := fun _ d => match d with | .int i => M.pure (some i) | _ => M.stk) a0 p fun d S1 μ1 H1 v s1 a1 rv p => ?_
  cases d with
  | int i => exact ⟨i, rv, Post.here (W := W) a1.lnk p⟩
  | _ => exact p.elim
theorem rvs_take {μ : Nat → Addr} {n : Nat} {H : Hp} : ∀ {ds : List D} {vs : List V} (k : Nat), RVs G μ n H ds vs → RVs G μ n H (ds.take k) (vs.take k)
  | [], vs, k, h => by
    have h : vs = [] := h
    subst h; rw [List.take_nil, List.take_nil]; rfl
  | d :: ds, vs, 0, h => rfl
  | d :: ds, _, k + 1, ⟨v, r, e, h1, h2⟩ => by subst e; exact ⟨v, r.take k, rfl, h1, rvs_take k h2⟩
theorem rvs_drop {μ : Nat → Addr} {n : Nat} {H : Hp} : ∀ {ds : List D} {vs : List V} (k : Nat), RVs G μ n H ds vs → RVs G μ n H (ds.drop k) (vs.drop k)
  | [], vs, k, h => by
    have h : vs = [] := h
    subst h; rw [List.drop_nil, List.drop_nil]; rfl
  | d :: ds, vs, 0, h => h
  | d :: ds, _, k + 1, ⟨v, r, e, h1, h2⟩ => by subst e; exact rvs_drop k h2
theorem rvs_cut {μ : Nat → Addr} {n : Nat} {H : Hp} {ds : List D} {vs : List V} {lo hi : Option Int} (r : RVs G μ n H ds vs) : RVs G μ n H (cutD ds lo hi) (cutV vs lo hi) := by
  unfold cutD cutV
  rw [r.length]
  exact rvs_take _ (rvs_drop _ r)
theorem se_slice (hK : G.K = X.K) {lo hi : Option Expr} {fl fh : Option (En → M D)} {p2 : Pos} (he : SE X G W e fe) (hl : SP0 X G W lo fl) (hh : SP0 X G W hi fh) : SE X G W (.Subscript e (.Slice lo hi none p2) pos) (sliceE fe fl fh) :=
  pe_imp (pe_slice (SlR.or sl_tupA sl_list) he hl hh) fun σ H Q ⟨σd, S, μ, a0, p⟩ => by
    refine rdE_bind (k := fun σ x => partD fl σ >>= fun l => partD fh σ >>= fun h => sliceC x l h) a0 p fun d S1 μ1 H1 v s1 a1 rv p => ?_
    refine ⟨σd, S1, μ1, a1, (Post.bind (k := fun l => partD fh σd >>= fun h => sliceC d l h) p).mono fun l S2 μ2 H2 s2 p => ?_⟩
    have a2 := a1.step s2
    refine ⟨σd, S2, μ2, a2, (Post.bind (k := fun h => sliceC d l h) p).mono fun h S3 μ3 H3 s3 p => ?_⟩
    have a3 := a2.step s3
    have rv3 := (s2.trans s3).rv a1.lnk rv
    unfold sliceC at p
    cases e1 : tupD d with
    | some ds =>
      rw [e1] at p
      simp only at p
      obtain ⟨ad, vs, rfl, h1, h2⟩ := tupD_ok rv3 e1
      rw [hK] at h1
      refine .inl ⟨ad, vs, rfl, h1, fun hw => ?_, fun hw q hq => ?_⟩
      · rw [← h2.length] at hw
        rw [if_pos hw] at p
        exact (Post.here (W := W) a3.lnk p) _ rv3
      · rw [← h2.length] at hw
        rw [if_neg hw] at p
        exact Post.step (Stp.new a3.lnk hq) p _ (new_tup a3.lnk hq (rvs_cut h2))
    | none =>
      rw [e1] at p
      simp only at p
      cases e2 : seqK S3 d with
      | none => rw [e2] at p; exact p.elim
      | some ds =>
        rw [e2] at p
        obtain ⟨ad, vs, rfl, h1, h2⟩ := seqK_ok a3.lnk rv3 e2
        rw [hK] at h1
        exact .inr ⟨ad, vs, rfl, h1, fun q hq => Post.step (Stp.new a3.lnk hq) p _ (new_lst a3.lnk hq (rvs_cut h2))⟩
/-! ### range -/
def rangeI (lo : Int) (n : Nat) : List D := (List.range n).map fun (i : Nat) => D.int (lo + (i : Int))
def rng1 (fa : En → M D) : En → M (List D) := fun σ => fa σ >>= fun d => match d with
  | .int j => if -(2 ^ 62) ≤ j ∧ j < 2 ^ 62 then M.pure (rangeI 0 j.toNat) else M.stk
  | _ => M.stk
def rng2 (fa fb : En → M D) : En → M (List D) := fun σ => fa σ >>= fun x => fb σ >>= fun y => match x, y with
  | .int i, .int j => if -(2 ^ 62) ≤ i ∧ i < 2 ^ 62 ∧ -(2 ^ 62) ≤ j ∧ j < 2 ^ 62 then M.pure (rangeI i (j - i).toNat) else M.stk
  | _, _ => M.stk
theorem itok_range {μ : Nat → Addr} {S : Sto} {H : Hp} (lo : Int) (n : Nat) : ItOk G (Itr lo n) μ S H (rangeI lo n) := fun μ' S' H' s => by
  unfold rangeI
  refine ⟨fun i hi => by rw [List.length_map, List.length_range] at hi; exact hi, by rw [List.length_map, List.length_range]; exact Nat.le_refl _, fun i d e x H'' ⟨e1, e2⟩ => ?_⟩
  subst e1 e2
  rw [List.getElem?_map] at e
  cases e4 : (List.range n)[i]? with
  | none => rw [e4] at e; cases e
  | some j =>
    rw [e4] at e
    cases e
    obtain ⟨hj, ej⟩ := List.getElem?_eq_some_iff.mp e4
    rw [List.getElem_range] at ej
    subst ej
    exact ⟨.refl s.lnk, rfl⟩
theorem si_range1 {tg : Expr} {p : Pos} (hm : X.mg "range" = none) (ha : SE X G W a fa) (hg : Gl X "range" := by rfl) (hs : starEach [a] X.env = [(false, eval a X.env)] := by rfl) (hs1 : starEach [a] X.env = (false, eval a X.env) :: starEach [] X.env := by rfl) : SI X G W tg (.Call (.Name "range" p) [a] [] pos) (rng1 fa) :=
  pi_imp (pi_range1 hg hm (sa_cons ha sa_nil hs1) hs) fun σ H R ⟨σd, S, μ, a0, h⟩ => by
    have h := Post.bind (k := fun d => match d with | D.int j => if -(2 ^ 62) ≤ j ∧ j < 2 ^ 62 then M.pure (rangeI 0 j.toNat) else M.stk | _ => M.stk) h
    refine ⟨σd, S, μ, a0, ?_⟩
    have e0 : consA fa nilA σd S = (match fa σd S with | .ok d S1 => .ok [d] S1 | .exc c S1 => .exc c S1 | .stk => .stk) := by
      show M.bind (fa σd) (fun x => M.bind (nilA σd) fun xs => M.pure (x :: xs)) S = _
      unfold M.bind
      cases fa σd S <;> rfl
    rw [e0]
    cases e1 : fa σd S with
    | stk => rw [e1] at h; exact h.elim
    | exc c S1 => rw [e1] at h; exact h
    | ok d S1 =>
      rw [e1] at h
      intro μ1 H1 s1 vs rs
      obtain ⟨v, rfl, rv⟩ := rvs1 rs
      have q := h μ1 H1 s1
      cases d with
      | int j =>
        simp only at q
        by_cases hj : -(2 ^ 62) ≤ j ∧ j < 2 ^ 62
        · rw [if_pos hj] at q
          exact ⟨j, by rw [show v = .int j from rv], hj.1, hj.2, (Post.here (W := W) s1.lnk q) _ (itok_range 0 _)⟩
        · rw [if_neg hj] at q; exact q.elim
      | _ => exact q.elim
/-! ### {} -/
def newD (t : Bool) : M D := fun S => .ok (.ref S.n) (S.push (.dct t []))
def newDE (t : Bool) : En → M D := fun _ => newD t
theorem own_dct {μ : Nat → Addr} {S : Sto} {H : Hp} (L : Lnk G μ S H) {p : Addr} {t : Bool} {kvs : List (DK × D)} {vs : List (DK × V)} {o : HO} (hp : H p = none) (ho : HOd t vs o) (r : RVk G μ S.n H kvs vs) : Stp G μ S H (putMu μ S.n p) (S.push (.dct t kvs)) (upd H p o) :=
  Stp.own L hp ⟨vs, o, upd_same, ho, RVk.mono (grow_own L hp) L.tf _ _ r⟩
theorem se_dnew (t : Bool) : SE X G W (.Dict [] [] pos) (newDE t) := by
  cases t with
  | false => exact pe_imp pe_dnewK fun σ H Q ⟨σd, S, μ, a0, h⟩ p hp => Post.step (own_dct (t := false) (kvs := []) a0.lnk hp (.k []) rfl) h _ rv_own
  | true => exact pe_imp pe_dnewT fun σ H Q ⟨σd, S, μ, a0, h⟩ p hp => Post.step (own_dct (t := true) (kvs := []) a0.lnk hp (.t []) rfl) h _ rv_own
/-- a new dict that stays as it is -/
theorem new_dct {μ : Nat → Addr} {S : Sto} {H : Hp} (L : Lnk G μ S H) {p : Addr} {t : Bool} {kvs : List (DK × D)} {vs : List (DK × V)} {o : HO} {od : Obj} (hp : H p = none) (ho : HOd t vs o) (r : RVk G μ S.n H kvs vs) : Stp G μ S H μ S (upd (upd H p o) p (.frz od o)) ∧ RV G μ S.n (upd (upd H p o) p (.frz od o)) (.dct t kvs) (.ref p) := by
  rw [upd_upd]
  exact ⟨Stp.new L hp, p, vs, od, o, rfl, notOwn_new L hp, upd_same, ho, RVk.mono (Stp.new L hp).grow L.tf _ _ r⟩
def newDV (t : Bool) : En → M D := fun _ => M.pure (.dct t [])
theorem se_dnewV (t : Bool) : SE X G W (.Dict [] [] pos) (newDV t) := by
  cases t with
  | false => exact pe_imp (pe_frz pe_dnewK) fun σ H Q ⟨σd, S, μ, a0, h⟩ p hp => ⟨p, _, rfl, upd_same, True.intro, fun od => by
      obtain ⟨st, rv⟩ := new_dct (t := false) (kvs := []) (od := od) a0.lnk hp (.k []) rfl
      exact Post.step st h _ rv⟩
  | true => exact pe_imp (pe_frz pe_dnewT) fun σ H Q ⟨σd, S, μ, a0, h⟩ p hp => ⟨p, _, rfl, upd_same, True.intro, fun od => by
      obtain ⟨st, rv⟩ := new_dct (t := true) (kvs := []) (od := od) a0.lnk hp (.t []) rfl
      exact Post.step st h _ rv⟩
end
end Fd

set_option Elab.async false
set_option linter.all false
set_option maxRecDepth 100000
set_option maxHeartbeats 1000000
namespace Fd
open PySem PySem.Spec PyProof.Rows L2
section
variable {X : Cx} {G : Gx} {W : XK} {o e : Expr} {es : List Expr} {fo fe : En → M D} {fr : En → M (List D)} {apos cpos pos p : Pos}
/-! ### methods of built-in types -/
abbrev rdMt (G : Gx) (W : XK) (g : D → List D → M D) : V → List V → Hp → VK → Prop := fun x xs H Q => ∃ d ds S μ, Lnk G μ S H ∧ RV G μ S.n H d x ∧ RVs G μ S.n H ds xs ∧ Post G μ S H W (WQ G Q) (g d ds S)
abbrev MtD (X : Cx) (G : Gx) (W : XK) (id : String) (g : D → List D → M D) : Prop := MtR X id (rdMt G W g)
theorem mtR_imp {id : String} {r r' : V → List V → Hp → VK → Prop} (h : MtR X id r) (m : ∀ x xs H Q, r' x xs H Q → r x xs H Q) : MtR X id r' := fun pins s σ H x xs v us Q I rx rs q => h pins s σ H x xs v us Q I rx rs (m x xs H Q q)
/-- the receiver's type -/
def tyC (T : String) (S : Sto) (d : D) : Bool := match d with
  | .str _ => T == "str"
  | .ref l => if S.locked l = true then T == "list" && (seqL S d).isSome else (T == "list" && (seqL S d).isSome) || (T == "dict" && (dctD S d).isSome)
  | .lst _ => T == "list"
  | _ => false
theorem tyC_ok {μ : Nat → Addr} {S : Sto} {H : Hp} (L : Lnk G μ S H) {T : String} {d : D} {v : V} (r : RV G μ S.n H d v) (h : tyC T S d = true) : tyV X.K T v H := by
  have isL : ∀ ds, seqL S d = some ds → T = "list" → tyV X.K T v H := fun ds e1 hT => by
    obtain ⟨a, vs, rfl, h1, _⟩ := seqL_ok L r e1
    exact .inl ⟨hT, vs, .inl h1⟩
  cases d with
  | str z =>
    have r : v = .str z := r
    subst r
    exact (beq_iff_eq).mp h
  | lst ds => exact isL ds rfl ((beq_iff_eq).mp h)
  | ref l =>
    unfold tyC at h
    have ls : ∀ q : Bool, (T == "list" && (seqL S (.ref l)).isSome) = true → tyV X.K T v H := fun _ h => by
      rw [Bool.and_eq_true, Option.isSome_iff_exists] at h
      obtain ⟨h1, ds, h2⟩ := h
      exact isL ds h2 ((beq_iff_eq).mp h1)
    by_cases hl : S.locked l = true
    · simp only [hl, if_true] at h
      exact ls true h
    · simp only [hl, if_false] at h
      have hl' : S.locked l = false := by simpa using hl
      rcases (Bool.or_eq_true _ _).mp h with h | h
      · exact ls true h
      · rw [Bool.and_eq_true, Option.isSome_iff_exists] at h
        obtain ⟨h1, ⟨t, kvs⟩, h2⟩ := h
        obtain ⟨hn, rfl⟩ := r
        obtain ⟨ob, eo⟩ := getE_of_lt hn
        have h2 : (match S.objs[l]? with | some (.dct t kvs) => some (t, kvs) | _ => none) = some (t, kvs) := h2
        rw [eo] at h2
        cases ob with
        | dct t' kvs' =>
          obtain ⟨vs, u, q1, q2, q3⟩ := L.ob l _ eo
          rw [hl'] at q1
          have q1 : H (μ l) = some u := q1
          refine .inr (.inr (.inl ⟨(beq_iff_eq).mp h1, ?_⟩))
          cases q2 with
          | k ls => exact .inl ⟨ls, q1⟩
          | t ls => exact .inr ⟨ls, q1⟩
        | lst _ => cases h2
        | ins _ _ => cases h2
  | _ => exact absurd h Bool.false_ne_true
def chkTy (T : String) (x : D) : M Unit := fun S => if tyC T S x = true then .ok () S else .stk
def bmE (T : String) (fo : En → M D) (fr : En → M (List D)) (g : D → List D → M D) : En → M D := fun σ => fo σ >>= fun x => chkTy T x >>= fun _ => fr σ >>= fun xs => g x xs
theorem chkTy_ok {μ : Nat → Addr} {S : Sto} {H : Hp} (L : Lnk G μ S H) {T : String} {d : D} {v : V} (r : RV G μ S.n H d v) {α : Type} {Q : α → Sto → (Nat → Addr) → Hp → Prop} {kk : M α} (p : Post G μ S H W Q ((chkTy T d >>= fun _ => kk) S)) : tyV X.K T v H ∧ Post G μ S H W Q (kk S) := by
  have p := Post.bind (k := fun _ => kk) p
  unfold chkTy at p
  by_cases h : tyC T S d = true
  · rw [if_pos h] at p
    exact ⟨tyC_ok L r h, Post.here L p⟩
  · rw [if_neg h] at p; exact p.elim
variable {T id : String} {name : Str} {g : D → List D → M D}
theorem se_bm (pa : PlainAttrs T) (slot : Slot T name id) (hty : typeOf (.builtin id) = pure (.type "method_descriptor")) (hm : MtD X G W id g) (ho : SE X G W o fo) (ha : SA X G W (e :: es) fr)
    (hbase : attributeBase o name X.env (eval o X.env) = eval o X.env := by rfl)
    (hfew : ((backTo cpos (starEach (e :: es) X.env)).all (fun x => !x.1) && (backToKw cpos (keywordEach [] X.env)).all (fun x => x.1.isSome)
      && decide ((e :: es).length + ([] : List Keyword).length + (if ([] : List Keyword).isEmpty then 0 else 1) < 30)) = true := by rfl)
    (hline : (apos.endLine == cpos.line) = true := by rfl) (hs : starEach (e :: es) X.env = (false, eval e X.env) :: starEach es X.env := by rfl) (hplain : (backTo cpos (starEach es X.env)).any (·.1) = false := by rfl) :
    SE X G W (.Call (.Attribute o name apos) (e :: es) [] cpos) (bmE T fo fr g) :=
  pe_imp (pe_bm pa slot hty hm ho ha hbase hfew hline hs hplain) fun σ H Q ⟨σd, S, μ, a0, h⟩ => by
    refine rdE_bind (k := fun σ x => chkTy T x >>= fun _ => fr σ >>= fun xs => g x xs) a0 h fun d S1 μ1 H1 v s a1 r p => ?_
    obtain ⟨ty, p⟩ := chkTy_ok a1.lnk r p
    refine ⟨ty, rdA_bind (k := fun _ xs => g d xs) a1 p fun ds S2 μ2 H2 vs s2 a2 rs p => ?_⟩
    exact ⟨d, ds, S2, μ2, a2.lnk, s2.rv a1.lnk r, rs, p⟩
theorem se_bm0 (pa : PlainAttrs T) (slot : Slot T name id) (hty : typeOf (.builtin id) = pure (.type "method_descriptor")) (hm : MtD X G W id g) (ho : SE X G W o fo)
    (hbase : attributeBase o name X.env (eval o X.env) = eval o X.env := by rfl) (hline : (apos.endLine == cpos.line) = true := by rfl) : SE X G W (.Call (.Attribute o name apos) [] [] cpos) (bmE T fo nilA g) :=
  pe_imp (pe_bm0 pa slot hty hm ho hbase hline) fun σ H Q ⟨σd, S, μ, a0, h⟩ => by
    refine rdE_bind (k := fun σ x => chkTy T x >>= fun _ => nilA σ >>= fun xs => g x xs) a0 h fun d S1 μ1 H1 v s a1 r p => ?_
    obtain ⟨ty, p⟩ := chkTy_ok a1.lnk r p
    exact ⟨ty, d, [], S1, μ1, a1.lnk, r, rfl, p⟩
/-! ### list.append, list.pop, dict.pop -/
def ownL (S : Sto) : D → Option (Nat × List D)
  | .ref l => if S.locked l = true then none else match S.objs[l]? with
    | some (.lst ds) => some (l, ds)
    | _ => none
  | _ => none
theorem ownL_ok {μ : Nat → Addr} {S : Sto} {H : Hp} (L : Lnk G μ S H) {d : D} {v : V} {l : Nat} {ds : List D} (r : RV G μ S.n H d v) (e : ownL S d = some (l, ds)) : d = .ref l ∧ l < S.n ∧ v = .ref (μ l) ∧ ∃ vs, H (μ l) = some (.lst vs) ∧ RVs G μ S.n H ds vs ∧
    ∀ ds' vs', RVs G μ S.n H ds' vs' → Stp G μ S H μ (S.put l (.lst ds')) (upd H (μ l) (.lst vs')) := by
  cases d with
  | ref l' =>
    obtain ⟨hl, rfl⟩ := r
    unfold ownL at e
    by_cases hk : S.locked l' = true
    · simp only [hk, if_true] at e; cases e
    · have hk' : S.locked l' = false := by simpa using hk
      simp only [hk, if_false] at e
      cases eo : S.objs[l']? with
      | none => simp only [eo] at e; cases e
      | some ob =>
        cases ob with
        | lst xs =>
          simp only [eo] at e
          cases e
          obtain ⟨vs, h1, h2⟩ := L.ob _ _ eo
          rw [hk'] at h1
          have h1 : H (μ l) = some (.lst vs) := h1
          refine ⟨rfl, hl, rfl, vs, h1, h2, fun ds' vs' r' => ?_⟩
          have g := grow_put (u := .lst vs') L hl h1 (fun _ _ e => by cases e) (fun _ e => by cases e)
          exact Stp.put L hl hk' h1 (fun _ _ e => by cases e) (fun _ e => by cases e) (fun _ e => by cases e) (fun _ e => by cases e) ⟨_, upd_same, r'.mono g L.tf⟩
        | dct _ _ => simp only [eo] at e; cases e
        | ins _ _ => simp only [eo] at e; cases e
  | _ => cases e
def appM : D → List D → M D := fun x ds S => match ds with
  | [y] => (match ownL S x with
    | some (l, xs) => if xs.length < sizeLine then .ok .non (S.put l (.lst (xs ++ [y]))) else .stk
    | none => .stk)
  | _ => .stk
theorem mt_app : MtD X G W "list.append" appM := mtR_imp mt_append fun x xs H Q ⟨d, ds, S, μ, L, r, rs, p⟩ => by
  unfold appM at p
  match ds, rs, p with
  | [y], rs, p =>
    obtain ⟨w, rfl, rw'⟩ := rvs1 rs
    simp only at p
    cases e1 : ownL S d with
    | none => rw [e1] at p; exact p.elim
    | some q =>
      obtain ⟨l, xs⟩ := q
      rw [e1] at p
      simp only at p
      obtain ⟨_, hl, rfl, vs, h1, h2, h3⟩ := ownL_ok L r e1
      by_cases hz : xs.length < sizeLine
      · rw [if_pos hz] at p
        exact ⟨_, vs, w, rfl, rfl, h1, by rw [← h2.length]; exact hz, Post.step (h3 _ _ (h2.append (show RVs G μ S.n H [y] [w] from ⟨w, [], rfl, rw', rfl⟩))) p _ rfl⟩
      · rw [if_neg hz] at p; exact p.elim
  | [], _, p => exact p.elim
  | _ :: _ :: _, _, p => exact p.elim
theorem rvs_dropLast {μ : Nat → Addr} {n : Nat} {H : Hp} {ds : List D} {vs : List V} (r : RVs G μ n H ds vs) : RVs G μ n H ds.dropLast vs.dropLast := by
  rw [List.dropLast_eq_take, List.dropLast_eq_take, r.length]
  exact rvs_take _ r
def popM : D → List D → M D := fun x ds S => match ds with
  | [] => (match ownL S x with
    | some (l, xs) => (match xs[xs.length - 1]? with
      | some y => .ok y (S.put l (.lst xs.dropLast))
      | none => .stk)
    | none => .stk)
  | _ => .stk
theorem mt_popD : MtD X G W "list.pop" popM := mtR_imp mt_pop fun x xs H Q ⟨d, ds, S, μ, L, r, rs, p⟩ => by
  unfold popM at p
  match ds, rs, p with
  | [], rs, p =>
    have rs : xs = [] := rs
    subst rs
    simp only at p
    cases e1 : ownL S d with
    | none => rw [e1] at p; exact p.elim
    | some q =>
      obtain ⟨l, xs⟩ := q
      rw [e1] at p
      simp only at p
      obtain ⟨_, hl, rfl, vs, h1, h2, h3⟩ := ownL_ok L r e1
      cases e2 : xs[xs.length - 1]? with
      | none => rw [e2] at p; exact p.elim
      | some y =>
        rw [e2] at p
        obtain ⟨w, ew, rw'⟩ := rvs_get h2 e2
        rw [h2.length] at ew
        have st := h3 _ _ (rvs_dropLast h2)
        exact ⟨_, vs, w, rfl, rfl, h1, ew, Post.step st p _ (st.rv L rw')⟩
  | _ :: _, _, p => exact p.elim
def ownK (S : Sto) : D → Option (Nat × List (DK × D))
  | .ref l => if S.locked l = true then none else match S.objs[l]? with
    | some (.dct false kvs) => some (l, kvs)
    | _ => none
  | _ => none
def dpopM : D → List D → M D := fun x ds S => match ds with
  | [k] => (match ownK S x, atomK k with
    | some (l, kvs), some kk => (match val kvs (.k kk) with
      | some y => .ok y (S.put l (.dct false (drop kvs (.k kk))))
      | none => .stk)
    | _, _ => .stk)
  | _ => .stk
theorem rvk_drop {μ : Nat → Addr} {n : Nat} {H : Hp} {κ : Type} [DecidableEq κ] {f : κ → DK} (inj : ∀ a b, f a = f b → a = b) {k : κ} : ∀ {kvs : List (DK × D)} {l : List (κ × V)}, RVk G μ n H kvs (l.map fun p => (f p.1, p.2)) → RVk G μ n H (drop kvs (f k)) ((dropK l k).map fun p => (f p.1, p.2))
  | [], [], _ => rfl
  | [], _ :: _, h => by cases (show _ = _ from h)
  | (k0, d) :: kvs, [], ⟨v, r, e, _⟩ => by cases e
  | (k0, d) :: kvs, (k', v') :: l, ⟨v, r, e, h1, h2⟩ => by
    rw [List.map_cons] at e
    injection e with e1 e2
    injection e1 with e3 e4
    subst e2 e3 e4
    have ih := rvk_drop inj (k := k) h2
    unfold drop dropK at ih ⊢
    by_cases hk : k' = k
    · rw [List.filter_cons_of_neg (by simp [hk]), List.filter_cons_of_neg (by simp [hk])]
      exact ih
    · rw [List.filter_cons_of_pos (by simp; exact fun z => hk (inj _ _ z)), List.filter_cons_of_pos (by simp [hk])]
      exact ⟨_, _, rfl, h1, ih⟩
theorem call_dpop : MtR X "dict.pop" (fun x xs H Q => ∃ a kvs k v, x = V.ref a ∧ xs = [kV k] ∧ H a = some (.dK kvs) ∧ valV kvs k = some v ∧ Q v (upd H a (.dK (dropK kvs k)))) := by
  intro pins s σ H x xs v us Q I rx rs h
  obtain ⟨a, kvs, k, w, rfl, rfl, hd, l, q⟩ := h
  cases rx
  obtain ⟨u, rfl, ru⟩ := rs.one
  exact d_pop I hd ru l (.inl rfl) fun w' s' I' rw' => ⟨w, _, I', rw', q⟩
theorem mt_dpop : MtD X G W "dict.pop" dpopM := mtR_imp call_dpop fun x xs H Q ⟨d, ds, S, μ, L, r, rs, p⟩ => by
  unfold dpopM at p
  match ds, rs, p with
  | [k], rs, p =>
    obtain ⟨w, rfl, rw'⟩ := rvs1 rs
    simp only at p
    cases d with
    | ref l =>
      obtain ⟨hl, rfl⟩ := r
      cases eK : ownK S (.ref l) with
      | none => rw [eK] at p; exact p.elim
      | some q =>
      rw [eK] at p
      obtain ⟨l0, kvs⟩ := q
      have eK : (if S.locked l = true then none else match S.objs[l]? with | some (.dct false kvs) => some (l, kvs) | _ => none) = some (l0, kvs) := eK
      by_cases hk : S.locked l = true
      · rw [if_pos hk] at eK; cases eK
      · have hk' : S.locked l = false := by simpa using hk
        rw [if_neg hk] at eK
        cases eo : S.objs[l]? with
        | none => rw [eo] at eK; cases eK
        | some ob =>
          rw [eo] at eK
          cases ob with
          | lst _ => cases eK
          | ins _ _ => cases eK
          | dct t kvs =>
            cases t with
            | true => cases eK
            | false =>
              cases eK
              cases e1 : atomK k with
              | none => rw [e1] at p; exact p.elim
              | some kk =>
                rw [e1] at p
                simp only at p
                cases e2 : val kvs (.k kk) with
                | none => rw [e2] at p; exact p.elim
                | some y =>
                  rw [e2] at p
                  obtain ⟨us, o, h1, h2, h3⟩ := L.ob _ _ eo
                  rw [hk'] at h1
                  have h1 : H (μ l) = some o := h1
                  cases h2 with
                  | k ls =>
                    have hv := val_valV (fun _ _ => dk_inj) h3 kk
                    rw [e2] at hv
                    cases e3 : valV ls kk with
                    | none => rw [e3] at hv; exact hv.elim
                    | some vv =>
                      rw [e3] at hv
                      have g := grow_put (u := .dK (dropK ls kk)) L hl h1 (fun _ _ e => by cases e) (fun _ e => by cases e)
                      have st : Stp G μ S H μ (S.put l (.dct false (drop kvs (.k kk)))) (upd H (μ l) (.dK (dropK ls kk))) := Stp.put L hl hk' h1 (fun _ _ e => by cases e) (fun _ e => by cases e) (fun _ e => by cases e) (fun _ e => by cases e)
                        ⟨_, _, upd_same, .k _, RVk.mono g L.tf _ _ (rvk_drop (fun _ _ => dk_inj) h3)⟩
                      refine ⟨μ l, ls, kk, vv, rfl, by rw [atomK_ok rw' e1], h1, e3, Post.step st p _ (st.rv L hv)⟩
    | _ => exact p.elim
  | [], _, p => exact p.elim
  | _ :: _ :: _, _, p => exact p.elim
end
end Fd

set_option Elab.async false
set_option linter.all false
set_option maxRecDepth 100000
set_option maxHeartbeats 1000000
namespace Fd
open PySem PySem.Spec PyProof.Rows L2
section
variable {X : Cx} {G : Gx} {W : XK} {o e : Expr} {es : List Expr} {fo fe : En → M D} {fr : En → M (List D)} {apos cpos pos p : Pos}
/-! ### dict(..) -/
def pairD : D → Option (DK × D)
  | .tup [k, v] => (atomK k).map fun kk => (.k kk, v)
  | _ => none
def mergeD (kvs more : List (DK × D)) : List (DK × D) := more.foldl (fun acc p => put acc p.1 p.2) kvs
def dictL (S : Sto) (d : D) : Option (List (DK × D)) := match dctD S d with
  | some (false, kvs) => some kvs
  | some (true, _) => none
  | none => (match seqL S d with
    | some xs => (xs.mapM pairD).map (mergeD [])
    | none => none)
def rDict (K : PySem.W.Frag) : List V → Hp → VK → Prop := fun xs H Q => (∃ (a : Addr) (kvs : List (Key × V)), xs = [.ref a] ∧ Rd H a (.dK kvs) ∧ ∀ p, H p = none → Q (.ref p) (upd H p (.dK kvs))) ∨
  ∃ (a : Addr) (ps : List Addr) (kvs : List (Key × V)), xs = [.ref a] ∧ SqL K H a (ps.map V.ref) ∧ Paired (fun p kv => SqT K H p [kV kv.1, kv.2]) ps kvs ∧ ∀ p, H p = none → Q (.ref p) (upd H p (.dK (mergeK [] kvs)))
theorem call_dict (hc : X.calm = true) : CallR X (.type "dict") (rDict X.K) := CallR.or call_dictD (call_dictP hc)
theorem rvk_merge {μ : Nat → Addr} {n : Nat} {H : Hp} : ∀ {more : List (DK × D)} {ms : List (Key × V)} {kvs : List (DK × D)} {l : List (Key × V)}, RVk G μ n H more (ms.map fun p => (DK.k p.1, p.2)) → RVk G μ n H kvs (l.map fun p => (DK.k p.1, p.2)) → RVk G μ n H (mergeD kvs more) ((mergeK l ms).map fun p => (DK.k p.1, p.2))
  | [], [], _, _, _, h => h
  | [], _ :: _, _, _, h, _ => by cases (show _ = _ from h)
  | (k0, d) :: more, [], _, _, ⟨v, r, e, _⟩, _ => by cases e
  | (k0, d) :: more, (k', v') :: ms, kvs, l, ⟨v, r, e, h1, h2⟩, h => by
    rw [List.map_cons] at e
    injection e with e1 e2
    injection e1 with e3 e4
    subst e2 e3 e4
    exact rvk_merge (more := more) (ms := ms) (kvs := put kvs (.k k') d) (l := putK l k' v') h2 (rvk_put (fun _ _ => dk_inj) h h1)
theorem pairs_ok {μ : Nat → Addr} {n : Nat} {H : Hp} : ∀ {xs : List D} {vs : List V} {prs : List (DK × D)}, RVs G μ n H xs vs → xs.mapM pairD = some prs → ∃ (ps : List Addr) (kvs : List (Key × V)), vs = ps.map V.ref ∧ Paired (fun p kv => SqT G.K H p [kV kv.1, kv.2]) ps kvs ∧ RVk G μ n H prs (kvs.map fun p => (DK.k p.1, p.2))
  | [], vs, prs, r, e => by
    have r : vs = [] := r
    subst r
    rw [List.mapM_nil] at e
    cases e
    exact ⟨[], [], rfl, .nil, rfl⟩
  | x :: xs, _, prs, ⟨v, r, ev, h1, h2⟩, e => by
    subst ev
    rw [List.mapM_cons] at e
    cases e1 : pairD x with
    | none => rw [e1] at e; cases e
    | some q =>
      cases e2 : xs.mapM pairD with
      | none => rw [e1, e2] at e; cases e
      | some qs =>
        rw [e1, e2] at e
        have e : some (q :: qs) = some prs := e
        cases e
        obtain ⟨ps, kvs, rfl, p2, p3⟩ := pairs_ok h2 e2
        unfold pairD at e1
        split at e1
        · rename_i k w
          cases e3 : atomK k with
          | none => rw [e3] at e1; cases e1
          | some kk =>
            rw [e3] at e1
            cases e1
            obtain ⟨a, us, rfl, t1, t2⟩ := h1
            obtain ⟨u1, u2, rfl, t3, t4⟩ := rvs2 t2
            refine ⟨a :: ps, (kk, u2) :: kvs, rfl, .cons ?_ p2, u2, _, rfl, t4, p3⟩
            show SqT G.K H a [kV kk, u2]
            rw [← atomK_ok t3 e3]
            exact .of t1
        · cases e1
/-- what dict(d) makes -/
theorem dict_made (hK : G.K = X.K) {μ : Nat → Addr} {S : Sto} {H : Hp} (L : Lnk G μ S H) {d : D} {v : V} {kvs : List (DK × D)} (r : RV G μ S.n H d v) (e : dictL S d = some kvs) {Q : VK}
    (h : ∀ (l : List (Key × V)), RVk G μ S.n H kvs (l.map fun p => (DK.k p.1, p.2)) → ∀ p, H p = none → Q (.ref p) (upd H p (.dK l))) : rDict X.K [v] H Q := by
  unfold dictL at e
  cases e1 : dctD S d with
  | some q =>
    obtain ⟨t, ks⟩ := q
    rw [e1] at e
    cases t with
    | true => cases e
    | false =>
      cases e
      obtain ⟨a, us, o, rfl, h1, h2, h3⟩ := dctD_ok L r e1
      cases h2 with
      | k l => exact .inl ⟨a, l, rfl, h1, h l h3⟩
  | none =>
    rw [e1] at e
    simp only at e
    cases e2 : seqL S d with
    | none => rw [e2] at e; cases e
    | some xs =>
      rw [e2] at e
      simp only at e
      cases e3 : xs.mapM pairD with
      | none => rw [e3] at e; cases e
      | some prs =>
        rw [e3] at e
        cases e
        obtain ⟨a, vs, rfl, h1, h2⟩ := seqL_ok L r e2
        obtain ⟨ps, ks, rfl, p2, p3⟩ := pairs_ok h2 e3
        rw [hK] at p2
        exact .inr ⟨a, ps, ks, rfl, .inl h1, p2, h _ (rvk_merge (kvs := []) (l := []) p3 rfl)⟩
def dictC : List D → M D := fun ds S => match ds with
  | [d] => (match dictL S d with
    | some kvs => .ok (.ref S.n) (S.push (.dct false kvs))
    | none => .stk)
  | _ => .stk
theorem cd_dict (hK : G.K = X.K) (hc : X.calm = true) : CallD X G W (.type "dict") dictC := callR_imp (call_dict hc) fun vs H Q ⟨ds, S, μ, L, r, p⟩ => by
  unfold dictC at p
  match ds, r, p with
  | [d], r, p =>
    obtain ⟨v, rfl, rd⟩ := rvs1 r
    simp only at p
    cases e1 : dictL S d with
    | none => rw [e1] at p; exact p.elim
    | some kvs =>
      rw [e1] at p
      exact dict_made hK L rd e1 fun l r q hq => Post.step (own_dct (t := false) L hq (.k l) r) p _ rv_own
  | [], _, p => exact p.elim
  | _ :: _ :: _, _, p => exact p.elim
/-- .. that stays as it is -/
def dictV (fr : En → M (List D)) : En → M D := fun σ => fr σ >>= fun ds S => match ds with
  | [d] => (match dictL S d with
    | some kvs => .ok (.dct false kvs) S
    | none => .stk)
  | _ => .stk
theorem se_dictV (hK : G.K = X.K) (hc : X.calm = true) (hm : X.mg "dict" = none) (ha : SA X G W (e :: es) fr) (hg : Gl X "dict" := by rfl) (hv : bootBuiltins "dict" = some (.type "dict") := by decide +kernel)
    (he : starEach (e :: es) X.env = (false, eval e X.env) :: starEach es X.env := by rfl) (hpl : (backTo pos (starEach es X.env)).any (·.1) = false := by rfl) : SE X G W (.Call (.Name "dict" p) (e :: es) [] pos) (dictV fr) :=
  pe_imp (pe_frz (pe_callTy (call_dict hc) hg hm hv ha (by decide) (by decide) he hpl)) fun σ H Q ⟨σd, S, μ, a0, h⟩ => by
    refine rdA_bind (k := fun _ ds S => match ds with | [d] => (match dictL S d with | some kvs => R.ok (D.dct false kvs) S | none => R.stk) | _ => R.stk) a0 h fun ds S1 μ1 H1 vs s a1 r p => ?_
    match ds, r, p with
    | [d], r, p =>
      obtain ⟨v, rfl, rd⟩ := rvs1 r
      simp only at p
      cases e1 : dictL S1 d with
      | none => rw [e1] at p; exact p.elim
      | some kvs =>
        rw [e1] at p
        refine dict_made hK a1.lnk rd e1 fun l r q hq => ⟨q, _, rfl, upd_same, True.intro, fun od => ?_⟩
        obtain ⟨st, rv⟩ := new_dct (t := false) (od := od) a1.lnk hq (.k l) r
        exact Post.step st p _ rv
    | [], _, p => exact p.elim
    | _ :: _ :: _, _, p => exact p.elim
/-! ### list(d.items()) -/
def rItemsR : V → Hp → VK → Prop := fun x H Q => ∃ (d : Addr) (kvs : List (Key × V)), x = .ref d ∧ Rd H d (.dK kvs) ∧
  ∀ (H' : Hp) (p : Addr) (ts : List Addr), (∀ b o, H b = some o → H' b = some o) → H p = none → (∀ t ∈ ts, H t = none) → p ∉ ts → H' p = some (.lst (ts.map V.ref)) → Paired (fun (t : Addr) (q : Key × V) => H' t = some (.tup [kV q.1, q.2])) ts kvs → Q (.ref p) H'
theorem pe_listItemsR {te : TE} (hc : X.calm = true) (he : PE X e te) (hg : Gl X "list") (hm : X.mg "list" = none) (hv : bootBuiltins "list" = some (.type "list")) (hbase : attributeBase e "items" X.env (eval e X.env) = eval e X.env := by rfl) (hline : (apos.endLine == cpos.line) = true := by rfl)
    (hs : starEach [.Call (.Attribute e "items" apos) [] [] cpos] X.env = (false, eval (.Call (.Attribute e "items" apos) [] [] cpos) X.env) :: starEach [] X.env := by rfl) :
    PE X (.Call (.Name "list" p) [.Call (.Attribute e "items" apos) [] [] cpos] [] pos) (fun σ H Q => te σ H fun x H1 => rItemsR x H1 Q) := by
  refine ⟨fun pins s σ H Q I hq => ?_⟩
  refine wpAny_Call_Name_kw ((ld_blt I hg hm hv ?_))
  refine (PyProof.Rows.callWith_type1 ?_ hs rfl)
  rw [hs]
  show wpAny _ _ (spliced ((false, eval (.Call (.Attribute e "items" apos) [] [] cpos) X.env) :: backTo pos (starEach [] X.env))) _ _ s
  refine (Calls.spliced_cons ?_)
  refine wpAny_Call_method (T := "dict") (id := "dict.items") hbase rfl hline F.plainAttrs_dict F.slot_dict_items F.type_dict_items (wpAny_mono (he.run pins s σ H _ I hq) (fun u s1 ⟨x, H1, I1, rx, d, kvs, ex, hd, q⟩ => ?_) fun _ _ x => x)
  subst ex
  obtain rfl : u = Value.ref d := rx
  obtain ⟨hz, hs0, vs, kv, hdo⟩ := dk_rd I1.hok hd
  obtain ⟨ep, hat⟩ := hdo.dictAt
  have lk : kvs.length = vs.length := Paired.length kv
  have I2 : Inv X pins σ H1 { s1 with heap := s1.heap.push { cls := .type "dict_items", data := .fields #[.ref d] } } := I1.kept (t' := s1.toks) fun b ob z => Heap.get?_push_of_some _ z
  refine ⟨hdo.typeIs, hdo.mapOf.noDict, ?_⟩
  show wpAny _ _ (callWith cpos (.builtin "dict.items") [.ref d] [] []) _ X.xe s1
  refine method_meetsIn F.slot_dict_items F.entry_dict_items rfl (PySem.evalArgs_none ⟨rfl, hdo.typeIs, F.args_dict_items_1 _, _, meets_dict_items (mixKind X.prog X.w) d hs0, ⟨vs, hdo⟩, ?_⟩)
  refine (Calls.spliced_nil ?_)
  refine PySem.W.kdx_call (knd := mixKind X.prog X.w) (kvs := vs) (ep := ep) (I1.ok.hd hc) ⟨_, Heap.get?_push_size _ rfl, rfl, rfl⟩ (hat.push _) (by omega) fun h' tk acc c as hk hS hl hG hacc => ?_
  obtain ⟨H', k1, k2, k3, k4, k5, k6, J⟩ := LiI.items_laid (tk := tk) I2 hz kv hk hS hl hG hacc
  exact ⟨.ref _, H', J, rfl, q H' _ as k1 k2 k3 k4 k5 k6⟩
def itemsD (kvs : List (DK × D)) : List D := kvs.map fun p => .tup [dkD p.1, p.2]
/-- many new objects, none of the store -/
theorem Stp.news {μ : Nat → Addr} {S : Sto} {H H' : Hp} (L : Lnk G μ S H) (k : ∀ b o, H b = some o → H' b = some o) (hT : G.T H') : Stp G μ S H μ S H' := by
  have g : Grow μ S.n H μ S.n H' := ⟨.refl _ _, fun l h1 h2 => absurd h2 (by omega), fun a u e _ _ => k a u e, fun a od u e => k a _ e, fun a u e nt => ⟨u, k a u e, nt⟩⟩
  refine ⟨⟨L.inj, fun l u e => ?_, hT, L.lk⟩, g⟩
  have h := L.ob l u e
  obtain ⟨w, hw, _⟩ := h.hd
  exact h.mono g L.tf (by rw [k _ _ hw, hw])
theorem items_rvs {μ : Nat → Addr} {n : Nat} {H : Hp} : ∀ {kvs : List (DK × D)} {l : List (Key × V)} {ts : List Addr}, RVk G μ n H kvs (l.map fun p => (DK.k p.1, p.2)) → Paired (fun (t : Addr) (q : Key × V) => H t = some (.tup [kV q.1, q.2])) ts l → RVs G μ n H (itemsD kvs) (ts.map V.ref)
  | [], [], _, _, .nil => rfl
  | [], _ :: _, _, h, _ => by cases (show _ = _ from h)
  | (k0, d) :: kvs, [], _, ⟨v, r, e, _⟩, _ => by cases e
  | (k0, d) :: kvs, (k', v') :: l, t :: ts, ⟨v, r, e, h1, h2⟩, .cons ht tl => by
    rw [List.map_cons] at e
    injection e with e1 e2
    injection e1 with e3 e4
    subst e2 e3 e4
    refine ⟨.ref t, ts.map V.ref, rfl, ⟨t, [kV k', v'], rfl, ht, kV k', [v'], rfl, ?_, v', [], rfl, h1, rfl⟩, items_rvs h2 tl⟩
    cases k' <;> rfl
def itemsE (fe : En → M D) : En → M D := fun σ => fe σ >>= fun d S => match dctD S d with
  | some (false, kvs) => .ok (.lst (itemsD kvs)) S
  | _ => .stk
theorem se_items (hc : X.calm = true) (hm : X.mg "list" = none) (he : SE X G W e fe) (hg : Gl X "list" := by rfl) (hv : bootBuiltins "list" = some (.type "list") := by decide +kernel) (hbase : attributeBase e "items" X.env (eval e X.env) = eval e X.env := by rfl) (hline : (apos.endLine == cpos.line) = true := by rfl)
    (hs : starEach [.Call (.Attribute e "items" apos) [] [] cpos] X.env = (false, eval (.Call (.Attribute e "items" apos) [] [] cpos) X.env) :: starEach [] X.env := by rfl) :
    SE X G W (.Call (.Name "list" p) [.Call (.Attribute e "items" apos) [] [] cpos] [] pos) (itemsE fe) :=
  pe_imp (pe_listItemsR hc he hg hm hv hbase hline hs) fun σ H Q ⟨σd, S, μ, a0, h⟩ => by
    refine rdE_bind (k := fun _ d S => match dctD S d with | some (false, kvs) => R.ok (D.lst (itemsD kvs)) S | _ => R.stk) a0 h fun d S1 μ1 H1 v s a1 r p => ?_
    cases e1 : dctD S1 d with
    | none => rw [e1] at p; exact p.elim
    | some q =>
      obtain ⟨t, kvs⟩ := q
      rw [e1] at p
      cases t with
      | true => exact p.elim
      | false =>
        obtain ⟨a, us, o, rfl, h1, h2, h3⟩ := dctD_ok a1.lnk r e1
        cases h2 with
        | k l =>
          refine ⟨a, l, rfl, h1, fun H' q ts k1 k2 k3 k4 k5 k6 => ?_⟩
          have st := Stp.news a1.lnk k1 (G.tst _ _ (fun b o z _ => k1 b o z) a1.lnk.tab)
          refine Post.step st p _ ⟨q, ts.map V.ref, rfl, notOwn_new a1.lnk k2, k5, items_rvs (RVk.mono st.grow a1.lnk.tf _ _ h3) k6⟩
/-! ### == of dicts -/
def eqK (S : Sto) : List (DK × D) → List (DK × D) → Option Bool
  | _, [] => some true
  | kb, (k, d) :: r => match val kb k with
    | none => some false
    | some w => (match py S d, py S w, eqK S kb r with
      | some a, some b, some c => some (PyData.eqv a b && c)
      | _, _, _ => none)
/-- .. their values data -/
def eqDct (S : Sto) (x y : D) : Option Bool := match dctD S x, dctD S y with
  | some (false, ka), some (false, kb) => if ka.length = kb.length then eqK S kb ka else some false
  | _, _ => none
def eqDO : D → D → M D := fun x y S => match eqDct S x y with
  | some b => .ok (.bl b) S
  | none => .stk
def neDO : D → D → M D := fun x y S => match eqDct S x y with
  | some b => .ok (.bl (!b)) S
  | none => .stk
theorem eqK_ok (hK : G.K = X.K) (hu : X.A.units + 64 < cLine) {μ : Nat → Addr} {S : Sto} {H : Hp} {pins : List (Addr × Obj)} {σ : L2.St} {s : Shared} (I : Inv X pins σ H s) (L : Lnk G μ S H) {kb : List (DK × D)} {lb : List (Key × V)} {vb : List (Key × Value)} (rb : RVk G μ S.n H kb (lb.map fun p => (DK.k p.1, p.2))) (tb : KV lb vb) :
    ∀ {ka : List (DK × D)} {la : List (Key × V)} {va : List (Key × Value)} {b : Bool}, RVk G μ S.n H ka (la.map fun p => (DK.k p.1, p.2)) → KV la va → eqK S kb ka = some b → PySem.W.KeqHits X.A.in1 s vb va b
  | [], [], va, b, _, t, e => by
    cases t
    cases e
    exact .nil
  | [], _ :: _, _, _, h, _, _ => by cases (show _ = _ from h)
  | (k0, d) :: ka, [], _, _, ⟨v, r, e, _⟩, _, _ => by cases e
  | (k0, d) :: ka, (k', v') :: la, (k2, u) :: va, b, ⟨v, r, ev, h1, h2⟩, .cons ⟨q1, q2⟩ t, e => by
    rw [List.map_cons] at ev
    injection ev with e1 e2
    injection e1 with e3 e4
    subst e2 e3 e4
    have q1 : k' = k2 := q1
    subst q1
    have q2 : RelV v' u := q2
    have hv := val_valV (fun _ _ => dk_inj) rb k'
    have hw := tb.val k'
    unfold eqK at e
    cases e5 : val kb (.k k') with
    | none =>
      rw [e5] at hv e
      cases e
      cases e6 : valV lb k' with
      | some _ => rw [e6] at hv; exact hv.elim
      | none =>
        rw [e6] at hw
        exact .miss (RelO.none_of hw)
    | some w =>
      rw [e5] at hv e
      simp only at e
      cases e6 : valV lb k' with
      | none => rw [e6] at hv; exact hv.elim
      | some wv =>
        rw [e6] at hv hw
        obtain ⟨y, ey, ry⟩ := RelO.some_of hw
        cases e7 : py S d with
        | none => rw [e7] at e; cases e
        | some pa =>
          cases e8 : py S w with
          | none => rw [e7, e8] at e; cases e
          | some pb =>
            cases e9 : eqK S kb ka with
            | none => rw [e7, e8, e9] at e; cases e
            | some c =>
              rw [e7, e8, e9] at e
              cases e
              obtain ⟨a1, a2, a3⟩ := toPy_ok L 12 d v' pa h1 e7
              obtain ⟨b1, b2, b3⟩ := toPy_ok L 12 w wv pb hv e8
              rw [hK] at a1 b1
              obtain ⟨as, ra⟩ := Dp.reads I pa v' u a1 q2
              obtain ⟨bs, rb'⟩ := Dp.reads I pb wv y b1 ry
              exact .hit ey (SeqAt.eqAt_plain pa pb X.A.in1 s u y as bs ra rb' a2 b2 (by
                have := Nat.min_le_left pa.depth pb.depth
                show X.A.units + 1 + _ < _
                omega)) (eqK_ok hK hu I L rb tb h2 t e9)
theorem eqDct_ok (hK : G.K = X.K) (hu : X.A.units + 64 < cLine) {μ : Nat → Addr} {S : Sto} {H : Hp} {pins : List (Addr × Obj)} {σ : L2.St} {s : Shared} (I : Inv X pins σ H s) (L : Lnk G μ S H) {x y : D} {v w : V} {vv ww : Value} {b : Bool} (rx : RV G μ S.n H x v) (ry : RV G μ S.n H y w) (r1 : RelV v vv) (r2 : RelV w ww) (e : eqDct S x y = some b) :
    ∃ a c va vc r, vv = .ref a ∧ ww = .ref c ∧ (a == sysModules) = false ∧ (c == sysModules) = false ∧ s.heap.DictOf (mixKind X.prog X.w) a va ∧ s.heap.DictOf (mixKind X.prog X.w) c vc ∧ (va.length = vc.length → PySem.W.KeqHits X.A.in1 s vc va r) ∧ (va.length == vc.length && r) = b := by
  unfold eqDct at e
  split at e
  · rename_i ka kb e1 e2
    obtain ⟨a, us, o, rfl, h1, h2, h3⟩ := dctD_ok L rx e1
    obtain ⟨c, ws, o', rfl, h1', h2', h3'⟩ := dctD_ok L ry e2
    cases h2 with
    | k la =>
      cases h2' with
      | k lb =>
        obtain ⟨_, ya, va, ra, da⟩ := dk_rd I.hok h1
        obtain ⟨_, yb, vb, rb, db⟩ := dk_rd I.hok h1'
        have la1 : ka.length = la.length := by rw [h3.length, List.length_map]
        have lb1 : kb.length = lb.length := by rw [h3'.length, List.length_map]
        have la2 : la.length = va.length := ra.length
        have lb2 : lb.length = vb.length := rb.length
        by_cases hl : ka.length = kb.length
        · rw [if_pos hl] at e
          refine ⟨a, c, va, vb, b, r1, r2, ya, yb, da, db, fun _ => eqK_ok hK hu I L h3' rb h3 ra e, ?_⟩
          have : (va.length == vb.length) = true := by rw [beq_iff_eq]; omega
          rw [this]; rfl
        · rw [if_neg hl] at e
          cases e
          refine ⟨a, c, va, vb, true, r1, r2, ya, yb, da, db, fun z => absurd z (by omega), ?_⟩
          have : (va.length == vb.length) = false := by rw [beq_eq_false_iff_ne]; omega
          rw [this]; rfl
  · cases e
theorem od_eqDO (hK : G.K = X.K) (hu : X.A.units + 64 < cLine) : OpD X G W (compareOp .Eq) eqDO := fun pins s σ H x y v u Q I rx ry ⟨d, e, S, μ, L, r1, r2, p⟩ => by
  unfold eqDO at p
  cases h : eqDct S d e with
  | none => rw [h] at p; exact p.elim
  | some b =>
    rw [h] at p
    obtain ⟨a, c, va, vc, r, rfl, rfl, ya, yb, da, db, hits, eb⟩ := eqDct_ok hK hu I L r1 r2 rx ry h
    exact PySem.W.keq_eq ya yb da db (by omega) hits ⟨.bl _, H, I, rfl, by rw [eb]; exact (Post.here (W := W) L p) _ rfl⟩
theorem od_neDO (hK : G.K = X.K) (hu : X.A.units + 64 < cLine) : OpD X G W (compareOp .NotEq) neDO := fun pins s σ H x y v u Q I rx ry ⟨d, e, S, μ, L, r1, r2, p⟩ => by
  unfold neDO at p
  cases h : eqDct S d e with
  | none => rw [h] at p; exact p.elim
  | some b =>
    rw [h] at p
    obtain ⟨a, c, va, vc, r, rfl, rfl, ya, yb, da, db, hits, eb⟩ := eqDct_ok hK hu I L r1 r2 rx ry h
    exact PySem.W.keq_ne ya yb da db (by omega) hits ⟨.bl _, H, I, rfl, by rw [eb]; exact (Post.here (W := W) L p) _ rfl⟩
end
end Fd

set_option Elab.async false
set_option linter.all false
set_option maxRecDepth 100000
set_option maxHeartbeats 1000000
namespace Fd
open PySem PySem.Spec PyProof.Rows L2 LamX
section
variable {X : Cx} {G : Gx} {W : XK} {o e : Expr} {fo fe : En → M D} {apos cpos pos p : Pos}
/-! ### told(lambda: body) -/
def toldE (okc : Nat → Bool) (ret : Str) (fb : En → M D) : En → M D := fun σ S => match fb σ S with
  | .ok d S' => .ok d S'
  | .exc c S' => if okc c = true then .ok (.str ret) S' else .stk
  | .stk => .stk
structure MPc (X : Cx) (G : Gx) (k : Nat) (scope : Scope) (body : Expr) (fb : En → M D) : Prop where
  run : ∀ (A : Around) (outer : List Env) (s : Shared) (H : Hp) (E : XK) (f c' : Addr), Room k (A.deeper (lamEnv X scope s.heap.objs.size f c')) → TakesD (lamCx X A outer s H E scope f c') E → SE (lamCx X A outer s H E scope f c') G E body fb
theorem se_told {T : List (Addr × Str)} {x a er q0 ret : Str} {g c P CS : Addr} {k : Nat} {pg : Arguments} {sg : Scope} {dV kV doc pm cdv ct oc : Value} {an od : Option Addr} {osl : Array (Option Value)} {Ng : List Str} {okc : Nat → Bool}
    {params : Arguments} {body : Expr} {scope : Scope} {fb : En → M D} {lpos : Pos} {j : Nat} {p1 p2 p3 p4 p5 p6 p7 p8 : Pos} (hT : G.T = Tabs T) (hm : X.mg x = some (.ref g)) (hk : PySem.W.keepIn X.K (.ref g) = true)
    (lk : X.K.lookup g = some ⟨oc, od, .func (PySem.W.fnOf x x pg [.Try [.Return (some (.Call (.Name a p1) [] [] p2)) p3] [.ExceptHandler (some (.Name er p4)) none [.Return (some (.Constant (.str ret) j p5)) p6] p7] [] [] p8] sg dV kV doc pm an cdv ct), osl⟩) (hcg : PySem.W.codeIn X.K cdv x = true)
    (hb : L2.Binds X.K (PySem.W.fnOf x x pg [.Try [.Return (some (.Call (.Name a p1) [] [] p2)) p3] [.ExceptHandler (some (.Name er p4)) none [.Return (some (.Constant (.str ret) j p5)) p6] p7] [] [] p8] sg dV kV doc pm an cdv ct) [a] []) (Sg : FnScope Ng [a] sg) (hNg : Ng[0]? = some a) (hva : Vis sg a)
    (hge : sg.names.lookup er = some .globalImplicit) (hme : X.mg er = some (.ref CS)) (hde : (er == ("__debug__" : Str)) = false) (h0 : ∀ f : Addr, (L2.start Ng [V.ref f])[0]? = some (some (V.ref f)))
    (TB : TabB X.base X.mg c P) (hcode : X.env.code = .ref c) (hmT : (P, X.env.qual ++ "<lambda>") ∈ T) (hu : ∀ p ∈ T, p.1 = P → p.2 = X.env.qual ++ "<lambda>") (hr : Room (k + 2) X.A) (L : LamS X.env.scope scope)
    (hexc : ∀ i, okc i = true → PySem.W.exmOne X.K (.ref (G.cA i)) (.ref CS) = some true) (mp : MPc X G k scope body fb) (hg : Gl X x := by rfl) (hdef : defaultsOf params X.env = ([], []) := by rfl)
    (hbind : ∀ (q : Str) (cl : List (Str × Addr)) (pm cv ctv : Value), bindArgs (PySem.W.kla_fn "<lambda>" q params body scope cl pm cv ctv) ⟨[], []⟩ = pure [] := by intros; rfl)
    (hdb : (x == ("__debug__" : Str)) = false := by decide) (hd : (a == ("__debug__" : Str)) = false := by decide) (hcd : (a == ("__classdict__" : Str)) = false := by decide) :
    SE X G W (.Call (.Name x p) [.Lambda params body scope lpos] [] pos) (toldE okc ret fb) := by
  refine pe_imp (pe_lamcall (T := T) (TT := TTold X.K CS ret) (t := fun E => rdE G E fb) (Ng := Ng) (k := k) hg hm hk lk hcg hb Sg hNg hva (told_gives hge hme hde h0) TB hcode hmT hu hr L hdef hbind (fun A outer s H E f c' hr' => mp.run A outer s H E f c' hr' (takes_of rfl rfl rfl rfl)) hdb hd hcd) fun σ H Q ⟨σd, S, μ, a0, h⟩ => ?_
  refine ⟨by rw [← hT]; exact a0.lnk.tab, fun H1 e1 t1 => ?_⟩
  have st := Stp.extN a0.lnk hT e1 t1
  refine ⟨σd, S, μ, a0.step st, ?_⟩
  have h := h.later st
  unfold toldE at h
  cases eb : fb σd S with
  | stk => rw [eb] at h; exact h.elim
  | ok d S' => rw [eb] at h; exact h
  | exc i S' =>
    rw [eb] at h
    by_cases hi : okc i = true
    · simp only [hi, if_true] at h
      intro μ' H' s'
      exact ⟨true, hexc i hi, fun _ => h μ' H' s' _ rfl, fun z => by cases z⟩
    · simp only [hi, if_false] at h
      exact h.elim
/-! ### sum(d.values()) -/
def sumsOk (is : List Int) : Bool := (List.range is.length).all fun j => inLong (is.getD j 0) && inLong (is.take (j + 1)).sum
theorem preSum_take (is : List Int) : ∀ j, j ≤ is.length → PySem.preSum (fun i => is.getD i 0) j = (is.take j).sum
  | 0, _ => rfl
  | j + 1, h => by
    show PySem.preSum (fun i => is.getD i 0) j + is.getD j 0 = _
    rw [preSum_take is j (Nat.le_of_succ_le h), List.take_add_one, List.getElem?_eq_getElem h, List.sum_append, List.getD_eq_getElem?_getD, List.getElem?_eq_getElem h]
    simp
def tSumVals (td : TE) : TE := fun σ H Q => td σ H fun x H1 => ∃ a kvs is, x = V.ref a ∧ H1 a = some (.dK kvs) ∧ kvs.map (·.2) = is.map V.int ∧ sumsOk is = true ∧ Q (.int is.sum) H1
theorem pe_sumVals {td : TE} (hc : X.calm = true) (hg : Gl X "sum") (hm : X.mg "sum" = none) (hd : PE X o td) (hbase : attributeBase o "values" X.env (eval o X.env) = eval o X.env := by rfl) (hline : (apos.endLine == cpos.line) = true := by rfl)
    (hse : starEach [Expr.Call (.Attribute o "values" apos) [] [] cpos] X.env = [(false, eval (Expr.Call (.Attribute o "values" apos) [] [] cpos) X.env)] := by rfl) :
    PE X (.Call (.Name "sum" p) [.Call (.Attribute o "values" apos) [] [] cpos] [] pos) (tSumVals td) := by
  refine ⟨fun pins s σ H Q I h => ?_⟩
  refine wpAny_Call_Name_kw (ld_blt I hg hm (u := .builtin "sum") (by first | rfl | decide +kernel) ?_ (by first | decide +kernel | decide) (by first | decide +kernel | decide))
  rw [hse]
  refine PySem.callWith_builtin1 (wpAny_Call_method0_late hbase hline (wpAny_mono (hd.run pins s σ H _ I h) (fun v s1 ⟨x, H1, I1, r1, a, kvs, is, ex, ha, hv, hne, q⟩ => ?_) fun _ _ x => x))
  subst ex
  obtain rfl : v = Value.ref a := r1
  obtain ⟨_, hsys, vs, rel, dof⟩ := dk_of I1.hok ha
  obtain ⟨ep, dat⟩ := dof.dictAt
  have dat' := dat
  obtain ⟨ob, es, ho, ex, hdat, hko, hpr, hnd⟩ := dat'
  refine ⟨"dict", "dict.values", F.plainAttrs_dict, F.slot_dict_values, F.type_dict_values, ⟨ob, ho, ex.1⟩, fun b e => ?_, Calls.callWith_builtin rfl (PySem.evalArgs_none ?_)⟩
  · cases e
    exact ⟨ob, ho, ex.2.1⟩
  refine call_meetsIn F.slot_dict_values ⟨ob, ho, ex.1⟩ F.entry_dict_values (F.args_dict_values_1 _) (meets_dict_values (mixKind X.prog X.w) a hsys) ⟨⟨vs, dof⟩, ?_⟩
  have k1 : ∀ b u, s1.heap.get? b = some u → (s1.heap.push { cls := .type "dict_values", data := .fields #[.ref a] }).get? b = some u := fun b u e => Heap.get?_push_of_some _ e
  have dat1 : (s1.heap.push { cls := .type "dict_values", data := .fields #[.ref a] }).DictAt (mixKind X.prog X.w) a vs ep := dat.keep k1
  have hlv : vs.length = is.length := by
    have e1 := congrArg List.length hv
    rw [List.length_map, List.length_map] at e1
    rw [← e1]
    exact (KV.length rel).symm
  have hval : ∀ (i : Nat) (v : Value), (∃ k, vs[i]? = some (k, v)) → ∃ t, v = Value.int (is.getD i 0) t := fun i v ⟨k, hk⟩ => by
    obtain ⟨x, h1, h2⟩ := KV.at' rel hk
    have e1 : (kvs.map (·.2))[i]? = some x := by rw [List.getElem?_map, h1] <;> rfl
    rw [hv, List.getElem?_map] at e1
    obtain ⟨j, hj, e2⟩ := Option.map_eq_some_iff.mp e1
    subst e2
    obtain ⟨t, e3⟩ := h2
    refine ⟨t, ?_⟩
    rw [e3, List.getD_eq_getElem?_getD, hj] <;> rfl
  have hfit : ∀ j, j < vs.length → PySem.InLong (is.getD j 0) ∧ PySem.InLong (PySem.preSum (fun i => is.getD i 0) (j + 1)) := fun j hj => by
    unfold sumsOk at hne
    rw [List.all_eq_true] at hne
    have z := hne j (List.mem_range.mpr (by omega))
    rw [preSum_take is (j + 1) (by omega)]
    unfold inLong at z
    simp only [Bool.and_eq_true, decide_eq_true_eq] at z
    exact z
  have hlt : a < s1.heap.objs.size := Heap.lt_size ho
  have hsz : (s1.heap.push { cls := .type "dict_values", data := .fields #[.ref a] }).objs.size = s1.heap.objs.size + 1 := Heap.size_push _ _
  refine call_sum_walk (wpAny_pyIter_values (v := s1.heap.objs.size) (d := a) ⟨_, Heap.get?_push_size _ rfl, rfl, rfl⟩ dat1 ?_)
  refine ⟨_, _, _, _, _, _, _, rfl, Walks.dictValues (knd := mixKind X.prog X.w) (A := X.A.in1) (I.ok.hd hc) (s1.heap.push { cls := .type "dict_values", data := .fields #[.ref a] }).objs.size a (by rw [hsz]; exact Nat.ne_of_lt (Nat.lt_succ_of_lt hlt)) vs ep,
    ⟨⟨_, Heap.get?_push_size _ rfl, rfl, rfl⟩, dat1.keep fun b u e => Heap.get?_push_of_some _ e⟩, fun b hb => ?_, hval, hfit, fun h' tk t' hk => ?_⟩
  · show b < ((s1.heap.push _).push _).objs.size
    rw [Heap.size_push, Heap.size_push]
    rw [hsz] at hb
    rcases List.mem_cons.mp hb with e | hb
    · rw [e]
      exact Nat.lt_succ_self _
    · have e : b = a := List.mem_singleton.mp hb
      rw [e]
      exact Nat.lt_succ_of_lt (Nat.lt_succ_of_lt hlt)
  · rw [hlv, preSum_take is is.length (Nat.le_refl _), List.take_length]
    refine ⟨.int _, H1, I1.kept (t' := tk) fun b u e => hk b u (fun hmem => ?_) (Heap.get?_push_of_some _ (k1 b u e)), ⟨t', rfl⟩, q⟩
    have e1 : b = (s1.heap.push { cls := .type "dict_values", data := .fields #[.ref a] }).objs.size := List.mem_singleton.mp hmem
    have e2 := Heap.lt_size e
    rw [hsz] at e1
    rw [e1] at e2
    exact absurd e2 (Nat.not_lt.mpr (Nat.le_succ _))
def sumValsE (fo : En → M D) : En → M D := fun σ => fo σ >>= fun d S => match ownK S d with
  | some (_, kvs) => if (allInts (kvs.map (·.2)) && sumsOk ((kvs.map (·.2)).map dI)) = true then .ok (.int ((kvs.map (·.2)).map dI).sum) S else .stk
  | none => .stk
theorem rvk_ints {μ : Nat → Addr} {n : Nat} {H : Hp} : ∀ {kvs : List (DK × D)} {l : List (Key × V)}, RVk G μ n H kvs (l.map fun p => (DK.k p.1, p.2)) → RVs G μ n H (kvs.map (·.2)) (l.map (·.2))
  | [], [], _ => rfl
  | [], _ :: _, h => by cases (show _ = _ from h)
  | (k0, d) :: kvs, [], ⟨v, r, e, _⟩ => by cases e
  | (k0, d) :: kvs, (k', v') :: l, ⟨v, r, e, h1, h2⟩ => by
    rw [List.map_cons] at e
    injection e with e1 e2
    injection e1 with e3 e4
    subst e2 e4
    exact ⟨v', l.map (·.2), rfl, h1, rvk_ints h2⟩
theorem ownK_ok {μ : Nat → Addr} {S : Sto} {H : Hp} (L : Lnk G μ S H) {d : D} {v : V} {l : Nat} {kvs : List (DK × D)} (r : RV G μ S.n H d v) (e : ownK S d = some (l, kvs)) : d = .ref l ∧ l < S.n ∧ S.locked l = false ∧ v = .ref (μ l) ∧ ∃ ls, H (μ l) = some (.dK ls) ∧ RVk G μ S.n H kvs (ls.map fun p => (DK.k p.1, p.2)) := by
  cases d with
  | ref l' =>
    obtain ⟨hl, rfl⟩ := r
    have e : (if S.locked l' = true then none else match S.objs[l']? with | some (.dct false kvs) => some (l', kvs) | _ => none) = some (l, kvs) := e
    by_cases hk : S.locked l' = true
    · rw [if_pos hk] at e; cases e
    · have hk' : S.locked l' = false := by simpa using hk
      rw [if_neg hk] at e
      cases eo : S.objs[l']? with
      | none => rw [eo] at e; cases e
      | some ob =>
        rw [eo] at e
        cases ob with
        | lst _ => cases e
        | ins _ _ => cases e
        | dct t ks =>
          cases t with
          | true => cases e
          | false =>
            cases e
            obtain ⟨us, u, h1, h2, h3⟩ := L.ob _ _ eo
            rw [hk'] at h1
            have h1 : H (μ l) = some u := h1
            cases h2 with
            | k ls => exact ⟨rfl, hl, hk', rfl, ls, h1, h3⟩
  | _ => cases e
theorem se_sumVals (hc : X.calm = true) (hm : X.mg "sum" = none) (ho : SE X G W o fo) (hg : Gl X "sum" := by rfl) (hbase : attributeBase o "values" X.env (eval o X.env) = eval o X.env := by rfl) (hline : (apos.endLine == cpos.line) = true := by rfl)
    (hse : starEach [Expr.Call (.Attribute o "values" apos) [] [] cpos] X.env = [(false, eval (Expr.Call (.Attribute o "values" apos) [] [] cpos) X.env)] := by rfl) : SE X G W (.Call (.Name "sum" p) [.Call (.Attribute o "values" apos) [] [] cpos] [] pos) (sumValsE fo) :=
  pe_imp (pe_sumVals hc hg hm ho hbase hline hse) fun σ H Q ⟨σd, S, μ, a0, h⟩ => by
    refine rdE_bind (k := fun _ d S => match ownK S d with | some (_, kvs) => if (allInts (kvs.map (·.2)) && sumsOk ((kvs.map (·.2)).map dI)) = true then R.ok (D.int ((kvs.map (·.2)).map dI).sum) S else R.stk | none => R.stk) a0 h fun d S1 μ1 H1 v s a1 r p => ?_
    cases e1 : ownK S1 d with
    | none => rw [e1] at p; exact p.elim
    | some q =>
      obtain ⟨l, kvs⟩ := q
      rw [e1] at p
      simp only at p
      by_cases hc' : (allInts (kvs.map (·.2)) && sumsOk ((kvs.map (·.2)).map dI)) = true
      · rw [if_pos hc'] at p
        rw [Bool.and_eq_true] at hc'
        obtain ⟨_, _, _, rfl, ls, h1, h2⟩ := ownK_ok a1.lnk r e1
        exact ⟨_, ls, _, rfl, h1, rvs_ints (rvk_ints h2) hc'.1, hc'.2, (Post.here (W := W) a1.lnk p) _ rfl⟩
      · rw [if_neg hc'] at p; exact p.elim
end
end Fd

set_option Elab.async false
set_option linter.all false
set_option maxRecDepth 100000
set_option maxHeartbeats 1000000
namespace Fd
open PySem PySem.Spec PyProof.Rows L2 LamX
/-! ### lambdas that stand in a list: the function object is known, its code object too -/
def LamO (f : Addr) (q : Str) (params : Arguments) (body : Expr) (scope : Scope) (cl : List (Str × Addr)) (c : Addr) : HO :=
  .ext fun h => ∃ (pm ctv : Value), h.get? f = some (PySem.W.kla_obj "<lambda>" q params body scope cl pm c ctv)
theorem lamO_ne {f c : Addr} {q : Str} {params : Arguments} {body : Expr} {scope : Scope} {cl : List (Str × Addr)} (ps : Array Value) : LamO f q params body scope cl c ≠ .tbl ps := fun z => by
  unfold LamO at z
  cases z
section
variable {X : Cx} {pins : List (Addr × Obj)} {σ : L2.St} {H : Hp} {s : Shared}
theorem inv_lam {q : Str} {params : Arguments} {body : Expr} {scope : Scope} {cl : List (Str × Addr)} {c : Addr} {pm ctv : Value} {t' : Nat} (I : Inv X pins σ H s) :
    Inv X pins σ (upd H s.heap.objs.size (LamO s.heap.objs.size q params body scope cl c)) { s with heap := s.heap.push (PySem.W.kla_obj "<lambda>" q params body scope cl pm c ctv), toks := t' } := by
  have e : (s.heap.push (PySem.W.kla_obj "<lambda>" q params body scope cl pm c ctv)).get? s.heap.objs.size = some (PySem.W.kla_obj "<lambda>" q params body scope cl pm c ctv) := Heap.get?_push_size _ rfl
  exact I.laid (a := s.heap.objs.size) (fun b u e => Heap.get?_push_of_some _ e) (Nat.le_refl _) ⟨⟨pm, ctv, e⟩, ⟨_, e⟩, fun h1 h2 ⟨p, z, g⟩ st => ⟨p, z, st _ g⟩⟩
theorem lamO_at {P : Program} {w : World} {h : Heap} {f c : Addr} {q : Str} {params : Arguments} {body : Expr} {scope : Scope} {cl : List (Str × Addr)} (hok : HOk P w H h) (e : H f = some (LamO f q params body scope cl c)) :
    ∃ pm ctv, h.get? f = some (PySem.W.kla_obj "<lambda>" q params body scope cl pm c ctv) := (hok f _ e).1
/-- the making, the object known -/
theorem lam_make3 {T : List (Addr × Str)} {c P : Addr} {params : Arguments} {body : Expr} {scope : Scope} {pos : Pos} {E : Value → Shared → Prop} {Q : Value → Shared → Prop} (J : Inv X pins σ H s) (tb : TabB X.base X.mg c P) (hco : X.env.code = .ref c)
    (mT : (P, X.env.qual ++ "<lambda>") ∈ T) (uT : ∀ p ∈ T, p.1 = P → p.2 = X.env.qual ++ "<lambda>") (hT : Tabs T H) (hde : defaultsOf params X.env = ([], [])) (hfr : ∀ y ∈ scope.names, y.2 = .free → ∃ c, X.env.cells.lookup y.1 = some c)
    (k : ∀ (f c' : Addr) (H1 : Hp) (s' : Shared), Inv X pins σ H1 s' → ExtN H H1 → Tabs T H1 → H f = none → H1 f = some (LamO f (X.env.qual ++ "<lambda>") params body scope (cloFrom X.env.cells scope.names []) c') → H1 c' = some (CodeO c' (X.env.qual ++ "<lambda>")) → Q (.ref f) s') :
    wpAny (model X.prog X.w) X.A (eval (.Lambda params body scope pos) X.env) Q E s := by
  obtain ⟨tp, eP, tr, among⟩ := hT _ mT
  refine PySem.W.kla_eval hde ?_
  have bP := tb.bm.keeps J.bk
  have gP := J.hok P _ eP
  cases hf : codeAmong pos tp.toList with
  | some cv =>
    obtain ⟨c', e, hc'⟩ := among pos cv hf
    subst e
    refine PySem.W.kla_makeFunctionHit (mg := X.mg) (c := c) (P := P) (ps := tp) (closure_ok hfr) (J.ok.glob) (J.mod.glob.keeps J.bk) hco (tb.code.keeps J.bk) gP tr hf bP fun ctv g tk kp hz => ?_
    have J1 : Inv X pins σ H { s with heap := g, toks := tk } := J.kept kp
    have J2 := inv_lam (t' := tk) (q := X.env.qual ++ "<lambda>") (params := params) (body := body) (scope := scope) (cl := cloFrom X.env.cells scope.names []) (c := c') (pm := (X.mg "__name__").getD .none) (ctv := ctv) J1
    have nf : H g.objs.size = none := J.hok.fresh hz
    have st : ∀ b o, H b = some o → (upd H g.objs.size (LamO g.objs.size (X.env.qual ++ "<lambda>") params body scope (cloFrom X.env.cells scope.names []) c')) b = some o := fun b o e => (upd_ne (ne_of_none e nf)).trans e
    exact k g.objs.size c' _ _ J2 (.of st) (hT.ext st) nf upd_same (st _ _ hc')
  | none =>
    refine PySem.W.kla_makeFunction (mg := X.mg) (c := c) (P := P) (ps := tp) (closure_ok hfr) (J.ok.glob) (J.mod.glob.keeps J.bk) hco (tb.code.keeps J.bk) gP tr hf tb.gP bP fun c' ctv g tk kp hge hlt hrec htb => ?_
    obtain ⟨c2, oc, vs, t, e2, hoc, hd, hv⟩ := hrec
    cases e2
    have hz : s.heap.objs.size ≤ g.objs.size := Nat.le_trans hge (Nat.le_of_lt hlt)
    have nC : H c' = none := J.hok.fresh hge
    have J1 := inv_table (t' := tk) (h' := g) (more := #[rawInt pos.line, rawInt pos.col, .ref c']) J eP (fun b o hb e => kp b o hb e) htb hge ⟨oc, vs, t, hoc, hd, hv⟩
    have J2 := inv_lam (t' := tk) (q := X.env.qual ++ "<lambda>") (params := params) (body := body) (scope := scope) (cl := cloFrom X.env.cells scope.names []) (c := c') (pm := (X.mg "__name__").getD .none) (ctv := ctv) J1
    generalize hT1 : (upd (upd H P (.tbl (tp ++ #[rawInt pos.line, rawInt pos.col, .ref c']))) c' (CodeO c' (X.env.qual ++ "<lambda>")) : Hp) = Ht at J1 J2
    have x1 : ExtN H Ht := fun b o e n => by
      rw [← hT1, upd_ne (ne_of_none e nC), upd_ne fun z => n tp (Option.some.inj (e.symm.trans (by rw [z]; exact eP)))]
      exact e
    have hc1 : Ht c' = some (CodeO c' (X.env.qual ++ "<lambda>")) := by rw [← hT1]; exact upd_same
    have eq : (tp ++ #[rawInt pos.line, rawInt pos.col, .ref c']).toList = tp.toList ++ [rawInt pos.line, rawInt pos.col, .ref c'] := by simp
    have T1 : Tabs T Ht := fun p hp => by
      by_cases hb : p.1 = P
      · rw [uT p hp hb, hb]
        refine ⟨_, (by rw [← hT1, upd_ne (ne_of_none eP nC)]; exact upd_same), (by rw [eq]; exact PySem.TriplesOk_snoc _ _ _ _ tr), fun p' cv hcv => ?_⟩
        rw [eq] at hcv
        rcases among_app _ tr hcv with z | z
        · obtain ⟨c0, e1, e2⟩ := among p' cv z
          exact ⟨c0, e1, (x1 _ _ e2 codeO_ne)⟩
        · exact ⟨c', z, hc1⟩
      · obtain ⟨ps', a1, a2, a3⟩ := hT p hp
        refine ⟨ps', (by rw [← hT1, upd_ne (ne_of_none a1 nC), upd_ne hb]; exact a1), a2, fun p' cv hcv => ?_⟩
        obtain ⟨c0, e1, e2⟩ := a3 p' cv hcv
        exact ⟨c0, e1, (x1 _ _ e2 codeO_ne)⟩
    have nf : Ht g.objs.size = none := by
      rw [← hT1, upd_ne (Nat.ne_of_gt hlt), upd_ne (Nat.ne_of_gt (Nat.lt_of_lt_of_le (Heap.lt_size gP) hz))]
      exact J.hok.fresh hz
    have st : ∀ b o, Ht b = some o → (upd Ht g.objs.size (LamO g.objs.size (X.env.qual ++ "<lambda>") params body scope (cloFrom X.env.cells scope.names []) c')) b = some o := fun b o e => (upd_ne (ne_of_none e nf)).trans e
    exact k g.objs.size c' _ _ J2 (x1.trans (.of st)) (T1.ext st) (J.hok.fresh hz) upd_same (st _ _ hc1)
end
/-! ### a lambda as a value -/
/-- what the i-th lambda of the frame is: its parameters, body, scope -/
abbrev LamT : Type := Arguments × Expr × Scope
def lamPX (q : Str) (cells : List (Str × Addr)) (ls : List LamT) : Nat → Addr → Addr → HO → HO → Prop := fun i a c o oc => ∃ l, ls[i]? = some l ∧ o = LamO a (q ++ "<lambda>") l.1 l.2.1 l.2.2 (cloFrom cells l.2.2.names []) c ∧ oc = CodeO c (q ++ "<lambda>")
section
variable {X : Cx} {G : Gx} {W : XK} {pos p : Pos}
theorem se_lam (i : Nat) {T : List (Addr × Str)} {ls : List LamT} {c P : Addr} {params : Arguments} {body : Expr} {scope : Scope} (hT : G.T = Tabs T) (hl : G.lamP = lamPX X.env.qual X.env.cells ls) (TB : TabB X.base X.mg c P) (hcode : X.env.code = .ref c) (hmT : (P, X.env.qual ++ "<lambda>") ∈ T)
    (hu : ∀ p ∈ T, p.1 = P → p.2 = X.env.qual ++ "<lambda>") (L : LamS X.env.scope scope) (hi : ls[i]? = some (params, body, scope)) (hdef : defaultsOf params X.env = ([], []) := by rfl) : SE X G W (.Lambda params body scope pos) (fun _ => M.pure (.lam i)) := by
  refine ⟨fun pins s σ H Q I ⟨σd, S, μ, a0, h⟩ => ?_⟩
  have tH : Tabs T H := by rw [← hT]; exact a0.lnk.tab
  refine lam_make3 I TB hcode hmT hu tH hdef (L.has I.ok) fun f c' H1 s' I1 x1 t1 nf ef ec => ?_
  have st := Stp.extN a0.lnk hT x1 t1
  have no : ∀ (b : Addr) (φ : Heap → Prop), H1 b = some (.ext φ) → NotOwn μ S.n b := fun b φ e l hl q => by
    obtain ⟨o, eo⟩ := getE_of_lt hl
    obtain ⟨u, q1, _, q3, _⟩ := (st.lnk.ob l o eo).hd
    rw [q, e] at q1
    exact q3 φ (Option.some.inj q1).symm
  refine ⟨.ref f, H1, I1, rfl, Post.step st h _ ⟨f, _, c', _, rfl, no f _ (by unfold LamO at ef; exact ef), ef, ?_, fun ps => lamO_ne ps, no c' _ (by unfold CodeO at ec; exact ec), ec, fun ps => codeO_ne ps⟩⟩
  rw [hl]
  exact ⟨_, hi, rfl, rfl⟩
end
end Fd

set_option Elab.async false
set_option linter.all false
set_option maxRecDepth 100000
set_option maxHeartbeats 1000000
namespace Fd
open PySem PySem.Spec PyProof.Rows L2 LamX
/-! ### told(f), f a lambda that stands in a list, within a comprehension of the frame that made it -/
section
variable {X : Cx} {pins : List (Addr × Obj)} {σ : L2.St} {H HZ : Hp} {s s1 : Shared}
theorem lam_act {CXg : CXT} {Eg : XK} {Ng : List Str} {qg : Str} {sg : Scope} {g f c' : Addr} {cdg : Value} {params : Arguments} {body : Expr} {scope : Scope} {k i : Nat} {a : Str} {pn : List (Addr × Obj)} {xe : Value → Shared → Prop} {W : WX} {E : XK} {tb : TE} {p1 p2 : Pos}
    (J : Inv X pins σ H s) (Ls : LamS X.env.scope scope) (hbn : ∀ (q : Str) (cl : List (Str × Addr)) (pm cv ctv : Value), bindArgs (PySem.W.kla_fn "<lambda>" q params body scope cl pm cv ctv) ⟨[], []⟩ = pure [])
    (tk : Takes ((cxOf CXg X.prog X.w X.K X.mg X.base Ng qg sg g cdg X.A X.stack s H Eg).tr pn xe) W) (hEW : ∀ cls d σ' H', E cls d H' → W cls d σ' H') (room : Room (k + 1) (X.A.deeper (envOfC qg sg s.heap.objs.size g cdg)))
    (hbo : ∀ (A : Around) (outer : List Env) (s : Shared) (H : Hp), Room k (A.deeper (lamEnv X scope s.heap.objs.size f c')) → PE (lamCx X A outer s H E scope f c') body tb)
    (hNi : Ng[i]? = some a) (hvi : Vis sg a) (d1 : (a == ("__debug__" : Str)) = false := by decide) (d2 : (a == ("__classdict__" : Str)) = false := by decide) :
    PE ((cxOf CXg X.prog X.w X.K X.mg X.base Ng qg sg g cdg X.A X.stack s H Eg).tr pn xe) (.Call (.Name a p1) [] [] p2)
      (fun σZ HZ Q => σZ[i]? = some (some (.ref f)) ∧ HZ f = some (LamO f (X.env.qual ++ "<lambda>") params body scope (cloFrom X.env.cells scope.names []) c') ∧ HZ c' = some (CodeO c' (X.env.qual ++ "<lambda>")) ∧ tb σ HZ Q) := by
  refine ⟨fun pz sz σZ HZ Q IZ h => ?_⟩
  obtain ⟨hs, hf, hc, ht⟩ := h
  refine wpAny_Call_Name_kw (thn ((pe_var (pos := p1) (i := i) hNi hvi d1 d2).run pz sz σZ HZ (fun v H1 => v = .ref f ∧ H1 = HZ) IZ ⟨.ref f, hs, rfl, rfl⟩) fun u s1 ⟨v, H1, I1, r1, q1⟩ => ?_)
  obtain ⟨ev, eH⟩ := q1
  subst ev
  rw [eH] at I1
  obtain rfl : u = Value.ref f := r1
  obtain ⟨pm, ctv, of1⟩ := lamO_at I1.hok hf
  refine PySem.W.callWith_F0 ⟨_, _, _, _, of1⟩ ?_
  have un : Un (frs X.stack) [] H HZ s.heap s1.heap := I1.base
  obtain ⟨⟨oc, vs, t, hoc, hdc, hvc⟩, _, _⟩ := I1.hok c' _ hc
  have rc : codeAny (model X.prog X.w) (X.A.deeper (envOfC qg sg s.heap.objs.size g cdg)) (.call (.ref f) ⟨[], []⟩) (CR (L2.CX X.prog X.w) (envOfC qg sg s.heap.objs.size g cdg :: X.stack) X.prog X.w HZ s1 Q E) s1 := by
    refine PySem.W.kla_callFunE room.depth of1 rfl Ls.co Ls.gen rfl ⟨c', oc, vs, t, rfl, hoc, hdc, hvc⟩ ?_
    rw [hbn]
    refine wpAny_pure (wpAny_newFunctionEnv (fun y hy => (Ls.own y hy).2) (fun y hy => absurd hy (by simp)) (fun g₁ hns hsb => ⟨I1.nolimit.fresh _ hsb, ?_⟩) Ls.kind)
    show codeAny _ _ (.expr body (lamEnv X scope s1.heap.objs.size f c')) _ _
    have kp : ∀ b o, s1.heap.get? b = some o → g₁.get? b = some o := fun b o e => hsb.extBut b o (Nat.ne_of_lt (Heap.lt_size e)) (Heap.get?_push_of_some _ e)
    have J2 : Inv (lamCx X (X.A.deeper (envOfC qg sg s.heap.objs.size g cdg)) (envOfC qg sg s.heap.objs.size g cdg :: X.stack) s1 HZ E scope f c') [] σ HZ { s1 with heap := g₁, toks := s1.toks + ([] : List (Str × Value)).length } :=
      lam_start2 J Ls I1.env0 room.hd un hns kp
    refine PySem.W.kla_codeExpr (wpAny_mono ((hbo _ _ s1 HZ (room.deeper _)).run [] _ _ HZ Q J2 ht) (fun v s' hq => ?_) fun e s' hq => hq)
    obtain ⟨w', H', J', rv, q⟩ := hq
    exact ⟨w', H', J'.os, J'.bare, J'.base, J'.hok, rv, q⟩
  have hx : Passes (L2.CX X.prog X.w) ((cxOf CXg X.prog X.w X.K X.mg X.base Ng qg sg g cdg X.A X.stack s H Eg).tr pn xe) E := passes_call tk hEW
  refine wpAny_call (codeAny_mono rc fun r s' hq => ?_)
  cases r with
  | error e => exact (hx pz σZ HZ s1 e s' I1 hq)
  | ok fl =>
    cases fl with
    | ret u => exact (I1.after hq)
    | next => exact (hq : False).elim
    | brk => exact (hq : False).elim
    | cont => exact (hq : False).elim
/-- try: return a() / except e: return ret, told of f -/
theorem told_runs {Ng : List Str} {x a e q ret : Str} {sg : Scope} {g CS f c' : Addr} {cdg : Value} {j : Nat} {p1 p2 p3 p4 p5 p6 p7 p8 : Pos} {lo : HO} {Q : VK} {tl : XK → Hp → VK → Prop} (hge : sg.names.lookup e = some .globalImplicit) (hme : X.mg e = some (.ref CS)) (hde : (e == ("__debug__" : Str)) = false) (h0 : (L2.start Ng [V.ref f])[0]? = some (some (V.ref f)))
    (act : ∀ (W : WX) (pn : List (Addr × Obj)) (xe : Value → Shared → Prop) (E : XK) (p1 p2 : Pos), Takes ((cxOf C8.CX0 X.prog X.w X.K X.mg X.base Ng x sg g cdg X.A X.stack s H C8.E0).tr pn xe) W → (∀ cls d σ' H', E cls d H' → W cls d σ' H') →
      PE ((cxOf C8.CX0 X.prog X.w X.K X.mg X.base Ng x sg g cdg X.A X.stack s H C8.E0).tr pn xe) (.Call (.Name a p1) [] [] p2) (fun σZ HZ Q => σZ[0]? = some (some (.ref f)) ∧ HZ f = some lo ∧ HZ c' = some (CodeO c' q) ∧ tl E HZ Q))
    (hf : H f = some lo) (hc : H c' = some (CodeO c' q)) (h : TTold X.K CS ret tl H Q) :
    ∃ t, PSs (cxOf C8.CX0 X.prog X.w X.K X.mg X.base Ng x sg g cdg X.A X.stack s H C8.E0).nox [.Try [.Return (some (.Call (.Name a p1) [] [] p2)) p3] [.ExceptHandler (some (.Name e p4)) none [.Return (some (.Constant (.str ret) j p5)) p6] p7] [] [] p8] t ∧
      t { nx := fun _ H' => Q .non H', rt := Q } (L2.start Ng [.ref f]) H := by
  have hgl : Gl (cxOf C8.CX0 X.prog X.w X.K X.mg X.base Ng x sg g cdg X.A X.stack s H C8.E0).nox e := hge
  refine ⟨_, pss_one (ps_try_only (X := (cxOf C8.CX0 X.prog X.w X.K X.mg X.base Ng x sg g cdg X.A X.stack s H C8.E0).nox) (c := .ref CS)
      (tb := fun W D σ H => ∃ Ech : XK, (∀ cls d σ' H', Ech cls d H' → W cls d σ' H') ∧ σ[0]? = some (some (.ref f)) ∧ H f = some lo ∧ H c' = some (CodeO c' q) ∧ tl Ech H D.rt)
      rfl rfl ⟨hgl, hde, (.inl hme)⟩ LamX.takes0 (fun W pn xe tk _ => ?_) (fun a oe cls d pn _ _ => pss_one (ps_ret pe_str))), ?_⟩
  · refine ⟨fun pz s' σ H D I h' => ?_⟩
    obtain ⟨Ech, hW, h1, h2, h3, h4⟩ := h'
    exact (pss_one (ps_ret (pos := p3) (act W pn xe Ech p1 p2 tk hW))).run pz s' σ H D I ⟨h1, h2, h3, h4⟩
  · exact ⟨fun cls _ H' => ∃ b, PySem.W.exmOne X.K cls (.ref CS) = some b ∧ (b = true → Q (.str ret) H') ∧ (b = false → False), fun cls d σ' H' ⟨b, e1, e2, e3⟩ => ⟨b, e1, fun hb a _ => e2 hb, fun hb => (e3 hb)⟩, h0, hf, hc, h⟩
end
section
variable {X : Cx} {G : Gx} {pos pf p : Pos}
def toldV (okc : Nat → Bool) (ret : Str) (vs : List Nat) (j : Nat) (fbs : List (En → M D)) : En → M D := fun σ => getV j σ >>= fun d => match d with
  | .lam i => (match fbs[i]? with
    | some fb => toldE okc ret fb (wipeE σ vs)
    | none => M.stk)
  | _ => M.stk
/-- the bodies' readings -/
def MPcs (X : Cx) (G : Gx) (k : Nat) (ls : List LamT) (fbs : List (En → M D)) : Prop := ∀ (i : Nat) (l : LamT) (fb : En → M D), ls[i]? = some l → fbs[i]? = some fb → MPc X G k l.2.2 l.2.1 fb ∧ LamS X.env.scope l.2.2 ∧ ∀ (q : Str) (cl : List (Str × Addr)) (pm cv ctv : Value), bindArgs (PySem.W.kla_fn "<lambda>" q l.1 l.2.1 l.2.2 cl pm cv ctv) ⟨[], []⟩ = pure []
theorem se_toldf {pins : List (Addr × Obj)} {σ0 : L2.St} {s3 : Shared} {H2 : Hp} {C : Addr} {cl : List (Str × Addr)} {fp : List Addr} {cscope : Scope} {vs : List Nat} {x a er ret z : Str} {g CS : Addr} {k jz : Nat} {pg : Arguments} {sg : Scope} {dV kV doc pm cdv ct oc : Value} {an od : Option Addr} {osl : Array (Option Value)} {Ng : List Str} {okc : Nat → Bool}
    {ls : List LamT} {fbs : List (En → M D)} {j : Nat} {p1 p2 p3 p4 p5 p6 p7 p8 : Pos} (I3 : Inv X pins σ0 H2 s3) (hfp : ∀ b ∈ fp, FpOk X pins H2 b) (hl : G.lamP = lamPX X.env.qual X.env.cells ls) (hm : X.mg x = some (.ref g)) (hk : PySem.W.keepIn X.K (.ref g) = true)
    (lk : X.K.lookup g = some ⟨oc, od, .func (PySem.W.fnOf x x pg [.Try [.Return (some (.Call (.Name a p1) [] [] p2)) p3] [.ExceptHandler (some (.Name er p4)) none [.Return (some (.Constant (.str ret) j p5)) p6] p7] [] [] p8] sg dV kV doc pm an cdv ct), osl⟩) (hcg : PySem.W.codeIn X.K cdv x = true)
    (hb : L2.Binds X.K (PySem.W.fnOf x x pg [.Try [.Return (some (.Call (.Name a p1) [] [] p2)) p3] [.ExceptHandler (some (.Name er p4)) none [.Return (some (.Constant (.str ret) j p5)) p6] p7] [] [] p8] sg dV kV doc pm an cdv ct) [a] []) (Sg : FnScope Ng [a] sg) (hNg : Ng[0]? = some a) (hva : Vis sg a)
    (hge : sg.names.lookup er = some .globalImplicit) (hme : X.mg er = some (.ref CS)) (hde : (er == ("__debug__" : Str)) = false) (h0 : ∀ f : Addr, (L2.start Ng [V.ref f])[0]? = some (some (V.ref f))) (hr : Room (k + 2) X.A)
    (hexc : ∀ i, okc i = true → PySem.W.exmOne X.K (.ref (G.cA i)) (.ref CS) = some true) (mp : MPcs X G k ls fbs) (hN : X.N[jz]? = some z) (hv : Vis (compEnvC cscope cl C X.env).scope z) (hgx : (compEnvC cscope cl C X.env).kindOf x = some .globalImplicit)
    (hzd : (z == ("__debug__" : Str)) = false := by decide) (hzc : (z == ("__classdict__" : Str)) = false := by decide) (hdb : (x == ("__debug__" : Str)) = false := by decide) (hd : (a == ("__debug__" : Str)) = false := by decide) (hcd : (a == ("__classdict__" : Str)) = false := by decide) :
    PE (X.blk s3 H2 cscope (compEnvC cscope cl C X.env) fp) (.Call (.Name x p) [.Name z pf] [] pos) (rdEw G NoX σ0 vs (toldV okc ret vs jz fbs)) := by
  refine ⟨fun pb s σ H Q J ⟨hw, σd, S, μ, a0, h⟩ => ?_⟩
  unfold toldV at h
  have h := Post.bind (k := fun (d : D) => match d with
    | .lam i => (match fbs[i]? with
      | some fb => toldE okc ret fb (wipeE σd vs)
      | none => M.stk)
    | _ => M.stk) h
  unfold getV at h
  cases ez : σd[jz]? with
  | none => rw [ez] at h; exact h.elim
  | some od' =>
    cases od' with
    | none => rw [ez] at h; exact h.elim
    | some d =>
      rw [ez] at h
      have h := Post.here (W := NoX) a0.lnk h
      cases d with
      | lam i =>
        simp only at h
        cases ef : fbs[i]? with
        | none => rw [ef] at h; exact h.elim
        | some fb =>
          rw [ef] at h
          simp only at h
          obtain ⟨v, ev, rv⟩ := a0.en.at_ jz _ ez
          obtain ⟨f, lo, c', co, rfl, no1, hf, hP, _, no2, hc, _⟩ := rv
          rw [hl] at hP
          obtain ⟨l, el, e1, e2⟩ := hP
          subst e1 e2
          obtain ⟨m1, m2, m3⟩ := mp i l fb el ef
          have hgb : Gl (X.blk s3 H2 cscope (compEnvC cscope cl C X.env) fp) x := hgx
          refine wpAny_Call_Name_kw (ld_glob J hgb hm ?_ hdb)
          refine PySem.W.callWith_K (h₀ := X.base) J.ok.mod.kin hk ?_ (by rfl) (by rfl)
          show wpAny _ _ (spliced ((false, eval (.Name z pf) (compEnvC cscope cl C X.env)) :: backTo pos (starEach [] _))) _ _ s
          refine Calls.spliced_cons (thn ((pe_var (pos := pf) (i := jz) (X := X.blk s3 H2 cscope (compEnvC cscope cl C X.env) fp) hN hv hzd hzc).run pb s σ H (fun v H1 => v = .ref f ∧ H1 = H) J ⟨.ref f, ev, rfl, rfl⟩) fun u s1 ⟨v, H1, I1, r1, q1⟩ => ?_)
          obtain ⟨ev1, eH⟩ := q1
          subst ev1
          rw [eH] at I1
          obtain rfl : u = Value.ref f := r1
          refine Calls.spliced_nil ⟨I1.kIn, ?_⟩
          have J' : Inv X pins σ0 H s1 := I3.call' (ch := fp) I1.os I1.base I1.hok I1.bare fun b hb => let y := hfp b hb; ⟨y.2.2.2.1, y.2.1, y.2.2.2.2.1, y.2.2.2.2.2⟩
          have aw : At G (wipeE σd vs) S μ σ0 H := by
            have q := a0.wipe vs
            rw [hw] at q
            exact ⟨⟨by have := q.en.len; rw [wipe_length] at this; exact this, fun i d e => by
              obtain ⟨w, e1, e2⟩ := q.en.at_ i d e
              exact ⟨w, (wipe_some e1).1, e2⟩⟩, q.lnk⟩
          have hT : TTold X.K CS ret (fun E H' Q' => rdE G E fb σ0 H' Q') H Q := by
            refine ⟨wipeE σd vs, S, μ, aw, ?_⟩
            unfold toldE at h
            cases eb : fb (wipeE σd vs) S with
            | stk => rw [eb] at h; exact h.elim
            | ok d S' => rw [eb] at h; exact h
            | exc i S' =>
              rw [eb] at h
              by_cases hi : okc i = true
              · simp only [hi, if_true] at h
                intro μ' H' s'
                exact ⟨true, hexc i hi, fun _ => h μ' H' s' _ rfl, fun z => by cases z⟩
              · simp only [hi, if_false] at h
                exact h.elim
          have rc : codeAny (model X.prog X.w) X.A (.call (.ref g) ⟨[.ref f], []⟩) (CR C8.CX0 X.stack X.prog X.w H s1 Q C8.E0) s1 := by
            refine run_ofS (N := Ng) (ps := [a]) (us := [.ref f]) (vs := [.ref f]) lk hcg Sg hr J'.env0 (hb s1 [.ref f] I1.kIn rfl) (.cons rfl .nil) rfl fun hr' => ?_
            obtain ⟨t', ht', hq'⟩ := told_runs (X := X) (f := f) (c' := c') hge hme hde (h0 f) (fun W pn xe E p1 p2 tk hW => lam_act (i := 0) J' m2 m3 tk hW hr' (fun A outer s H hr2 => m1.run A outer s H E f c' hr2 (takes_of rfl rfl rfl rfl)) hNg hva hd hcd) hf hc hT
            exact ⟨t', ht'.nox, hq'⟩
          refine wpAny_call (codeAny_mono rc fun r s2 hq => ?_)
          cases r with
          | error e => exact ((show False from hq)).elim
          | ok fl =>
            cases fl with
            | ret u => exact (I1.after hq)
            | next => exact (hq : False).elim
            | brk => exact (hq : False).elim
            | cont => exact (hq : False).elim
      | _ => exact h.elim
end
end Fd

set_option Elab.async false
set_option linter.all false
set_option maxRecDepth 100000
set_option maxHeartbeats 1000000
namespace Fd
open PySem PySem.Spec PyProof.Rows L2
/-! ### what the head tells -/
abbrev TabQ : Type := He.Defn × Str
def TQ (tq : List TabQ) (K : PySem.W.Frag) : List (Addr × Str) := tq.map fun p => ((He.cT K p.1).2, p.2)
def GX (cls : List Str) (tq : List TabQ) (K : PySem.W.Frag) (lp : Nat → Addr → Addr → HO → HO → Prop) : Gx where
  K := K
  cA := fun i => He.ga K (cls.getD i "")
  lamP := lp
  T := LamX.Tabs (TQ tq K)
  tst := fun H H' k h p hp => by
    obtain ⟨ps, h1, h2, h3⟩ := h p hp
    exact ⟨ps, k _ _ h1 (.inl ⟨ps, rfl⟩), h2, fun pos cv e => by
      obtain ⟨c, e1, e2⟩ := h3 pos cv e
      exact ⟨c, e1, k _ _ e2 (.inr ⟨_, rfl⟩)⟩⟩
structure Ev (fa : List He.Fa) (fn : List He.DefD) (ts : List He.Tab) (tq : List TabQ) (ex : PySem.W.Frag → Bool) (w : World) (h : Heap) (K : PySem.W.Frag) (mg : Str → Option Value) (base : Heap) : Prop where
  X : K.In h
  N : h.Ns mainGlobals mg
  S : He.SaysX fa fn ts (tq.map (·.1)) ex w h K
  B : ∀ p ∈ tq.map (·.1), LamX.TabB base mg (He.cT K p).1 (He.cT K p).2
  D : ((TQ tq K).map (·.1)).Nodup
def fdOf (K : PySem.W.Frag) (p : Str × Option Str) : FuncData := match K.lookup (He.fAd K p) with
  | some ⟨_, _, .func fd, _⟩ => fd
  | _ => ⟨"", "", default, .stmts [], ⟨.function, [], false, false, []⟩, 0, [], .none, .none, .none, .none, none, .none, .none, 0⟩
section
variable {fa : List He.Fa} {fn : List He.DefD} {ts : List He.Tab} {tq : List TabQ} {ex : PySem.W.Frag → Bool} {w : World} {h : Heap} {K : PySem.W.Frag} {mg : Str → Option Value} {base : Heap}
theorem Ev.ok (e : Ev fa fn ts tq ex w h K mg base) (i : Nat) {f : He.Fa} (hi : fa[i]? = some f := by rfl) : f.ok K = true := e.S.t.d.fact i hi
theorem Ev.glo (e : Ev fa fn ts tq ex w h K mg base) (i : Nat) {x : Str} (hi : fa[i]? = some (.glo x) := by rfl) : mg x = some (.ref (He.ga K x)) := He.glo_ok e.X e.N (e.ok i hi)
theorem Ev.free (e : Ev fa fn ts tq ex w h K mg base) (i : Nat) {x : Str} (hi : fa[i]? = some (.free x) := by rfl) : mg x = none := He.free_ok e.X e.N (e.ok i hi)
theorem Ev.int (e : Ev fa fn ts tq ex w h K mg base) (i : Nat) {x : Str} {z : Int} (hi : fa[i]? = some (.int x z) := by rfl) : ∃ t, mg x = some (.int z t) := He.int_ok e.X e.N (e.ok i hi)
theorem Ev.cls (e : Ev fa fn ts tq ex w h K mg base) (i : Nat) {x : Str} (hi : fa[i]? = some (.cls x) := by rfl) : Cls K (He.ga K x) := He.cls_ok (e.ok i hi)
theorem Ev.noat (e : Ev fa fn ts tq ex w h K mg base) (i : Nat) {x f : Str} (hi : fa[i]? = some (.noat x f) := by rfl) : NoAttr K (He.ga K x) f := He.noat_ok (e.ok i hi)
theorem Ev.meth (e : Ev fa fn ts tq ex w h K mg base) (i : Nat) {x m : Str} (hi : fa[i]? = some (.meth x m) := by rfl) : Meth K (He.ga K x) m (He.fAd K (x, some m)) := He.meth_ok (e.ok i hi)
theorem Ev.mkr (e : Ev fa fn ts tq ex w h K mg base) (i : Nat) {x : Str} (hi : fa[i]? = some (.mkr x) := by rfl) : Mk K (He.ga K x) (He.fAd K (x, some "__init__")) := He.mkr_ok (e.ok i hi)
theorem Ev.exc (e : Ev fa fn ts tq ex w h K mg base) (i : Nat) {x : Str} (hi : fa[i]? = some (.exc x) := by rfl) : PySem.W.excIn K (He.ga K x) He.veBase "ValueError.__new__" = true ∧ PySem.W.keepIn K (.ref (He.ga K x)) = true ∧ PySem.W.subIn K (.ref (He.ga K x)) (.type "BaseException") = some true ∧
    PySem.W.typeIn K (.ref (He.ga K x)) = some (.type "type") := He.exc_ok (e.ok i hi)
theorem Ev.exm (e : Ev fa fn ts tq ex w h K mg base) (i : Nat) {x y : Str} {b : Bool} (hi : fa[i]? = some (.exm x y b) := by rfl) : PySem.W.exmOne K (.ref (He.ga K x)) (.ref (He.ga K y)) = some b := He.exm_ok (e.ok i hi)
/-- a def, by its place in the list -/
theorem Ev.def_ (e : Ev fa fn ts tq ex w h K mg base) (i : Nat) {d : He.DefD} (hi : fn[i]? = some d := by rfl) : FunD K d.name d.qual d.params d.body d.scope (d.dvs K) (d.kws K) (He.fAd K d.at_) (fdOf K d.at_) := by
  obtain ⟨fd, F⟩ := e.S.t.d.def_ i hi
  have q : fdOf K d.at_ = fd := by
    obtain ⟨oc, od, dV, kV, doc, pm, an, cdv, ct, osl, e1, lk, _⟩ := F.ex
    unfold fdOf
    rw [lk]
  rw [q]
  exact F
theorem Ev.binds (e : Ev fa fn ts tq ex w h K mg base) (i : Nat) {d : He.DefD} {ps : List Str} (hi : fn[i]? = some d) (hb : ∀ (doc pm : Value) (an : Option Addr) (cdv ct kV : Value) (us : List Value), us.length = ps.length → bindArgs (PySem.W.fnOf d.name d.qual d.params d.body d.scope .none kV doc pm an cdv ct) ⟨us, []⟩ = pure (ps.zip us)) (hd : d.dfl = []) : L2.Binds K (fdOf K d.at_) ps [] := by
  obtain ⟨oc, od, dV, kV, doc, pm, an, cdv, ct, osl, e1, lk, _, hD, _⟩ := (e.def_ i hi).ex
  rw [e1]
  have hz : dV = .none := by
    rcases hD with ⟨_, z⟩ | ⟨z, _⟩
    · exact z
    · exact absurd (show d.dvs K = [] by unfold He.DefD.dvs; rw [hd]; rfl) z
  subst hz
  exact .all fun us hl => hb doc pm an cdv ct kV us hl
theorem Ev.keep (e : Ev fa fn ts tq ex w h K mg base) (i : Nat) {d : He.DefD} (hi : fn[i]? = some d := by rfl) : PySem.W.keepIn K (.ref (He.fAd K d.at_)) = true := (e.def_ i hi).kp
/-- the table of a def that makes generators or lambdas -/
theorem Ev.tab (e : Ev fa fn ts tq ex w h K mg base) (i : Nat) {p : TabQ} (hi : tq[i]? = some p := by rfl) : LamX.TabB base mg (He.codeOf K p.1) (He.tabOf K (He.codeOf K p.1)) ∧ (He.tabOf K (He.codeOf K p.1), p.2) ∈ TQ tq K ∧ ∀ q ∈ TQ tq K, q.1 = He.tabOf K (He.codeOf K p.1) → q.2 = p.2 := by
  have hm := List.mem_of_getElem? hi
  have m : (He.tabOf K (He.codeOf K p.1), p.2) ∈ TQ tq K := List.mem_map.mpr ⟨p, hm, rfl⟩
  refine ⟨e.B p.1 (List.mem_map.mpr ⟨p, hm, rfl⟩), m, fun q hq eq => ?_⟩
  have key : ∀ (l : List (Addr × Str)) (a b : Addr × Str), (l.map (·.1)).Nodup → a ∈ l → b ∈ l → a.1 = b.1 → a = b := by
    intro l
    induction l with
    | nil => intro a b _ ha; cases ha
    | cons x r ih =>
      intro a b nd ha hb eab
      rw [List.map_cons, List.nodup_cons] at nd
      rcases List.mem_cons.mp ha with rfl | ha'
      · rcases List.mem_cons.mp hb with rfl | hb'
        · rfl
        · exact absurd (List.mem_map.mpr ⟨b, hb', eab.symm⟩) nd.1
      · rcases List.mem_cons.mp hb with rfl | hb'
        · exact absurd (List.mem_map.mpr ⟨a, ha', eab⟩) nd.1
        · exact ih a b nd.2 ha' hb' eab
  rw [key _ q _ e.D hq m eq]
end
/-! ### the rules of a def, its code object known -/
section
variable {P : Program} {w : World} {mg : Str → Option Value} {base : Heap} {x qual : Str} {params : Arguments} {body : List Stmt} {scope : Scope} {p : Str × Option Str} {fd : FuncData} {N ps : List Str} {k : Nat} {fb : En → M Fl}
theorem fnC_ok {G : Gx} (F : FunD G.K x qual params body scope [] [] (He.fAd G.K p) fd) (S : FnScope N ps scope)
    (hbody : ∀ (A : Around) (outer : List Env) (s : Shared) (H : Hp) (E : XK), Room k (A.deeper (envOfC qual scope s.heap.objs.size (He.fAd G.K p) (.ref (He.codeOf G.K p)))) → TakesD (cxOf (L2.CX P w) P w G.K mg base N qual scope (He.fAd G.K p) (.ref (He.codeOf G.K p)) A outer s H E) E →
      SSs (cxOf (L2.CX P w) P w G.K mg base N qual scope (He.fAd G.K p) (.ref (He.codeOf G.K p)) A outer s H E) G E body fb) : FnD P w mg base G (k + 1) (He.fAd G.K p) fd ps (bodyD N.length fb) := by
  obtain ⟨oc, od, dV, kV, doc, pm, an, cdv, ct, osl, rfl, lk, hcd, _, _⟩ := F.ex
  obtain ⟨c, hc⟩ := He.codeIn_ref hcd
  have ec : He.codeOf G.K p = c := He.codeOf_eq lk hc
  subst hc
  subst ec
  refine fn_of lk hcd S (fun vs H Q E ⟨ds, S, μ, h1, h2, _⟩ => h2.length.symm.trans h1) fun A outer s H vs Q E hr ⟨ds, S', μ, h1, r, L, p'⟩ => ?_
  refine ⟨_, hbody A outer s H E hr (takes_of rfl rfl rfl rfl), startD N.length ds, S', μ, ⟨ren_start r, L⟩, ?_⟩
  refine (Post.bind (k := fun (fl : Fl) => match fl with
    | .nx _ => M.pure .non
    | .rt d => M.pure d
    | _ => M.stk) p').mono fun fl S1 μ1 H1 s1 q => ?_
  cases fl with
  | nx σd => exact fun σ en => (Post.here (W := E) s1.lnk q) _ rfl
  | rt d => exact fun v rv => (Post.here (W := E) s1.lnk q) v rv
  | bk σd => exact q.elim
  | ct σd => exact q.elim
def spLaw (K : PySem.W.Frag) (T : List (Addr × Str)) (n : Nat) : Sp := fun vs H Q _ => ∃ (a : Addr) (ns : List Int), vs = [.ref a] ∧ SqL K H a (ns.map V.int) ∧ ns.length ≤ n ∧ (∀ z ∈ ns, Builtin.Int.intBits z ≤ 1048576) ∧ LamX.Tabs T H ∧ ∀ H', Q (.bl true) H'
theorem rvs_int {G : Gx} {μ : Nat → Addr} {n : Nat} {H : Hp} : ∀ ns : List Int, RVs G μ n H (ns.map D.int) (ns.map V.int)
  | [] => rfl
  | z :: ns => ⟨_, _, rfl, rfl, rvs_int ns⟩
theorem lawC_ok {K : PySem.W.Frag} {T : List (Addr × Str)} {n : Nat} {G : List (Str × Addr) → Gx} (hK : ∀ c, (G c).K = K) (hT : ∀ c, (G c).T = LamX.Tabs T) (F : FunD K x qual params body scope [] [] (He.fAd K p) fd) (S : FnScope N ["script"] scope)
    (hbody : ∀ (A : Around) (outer : List Env) (s : Shared) (H : Hp) (E : XK), Room k (A.deeper (envOfC qual scope s.heap.objs.size (He.fAd K p) (.ref (He.codeOf K p)))) → TakesD (cxOf (L2.CX P w) P w K mg base N qual scope (He.fAd K p) (.ref (He.codeOf K p)) A outer s H E) E →
      SSs (cxOf (L2.CX P w) P w K mg base N qual scope (He.fAd K p) (.ref (He.codeOf K p)) A outer s H E) (G (cellsFrom (s.heap.objs.size + 1) scope.names [])) E body fb)
    (hm : ∀ (ns : List Int) (d : D) (S : Sto), ns.length ≤ n → (∀ z ∈ ns, Builtin.Int.intBits z ≤ 1048576) → (d = .kl (ns.map .int) ∧ S = ⟨[], []⟩) ∨ (d = .ref 0 ∧ ∃ lk : List Nat, (∀ l ∈ lk, l = 0) ∧ S = ⟨[.lst (ns.map .int)], lk⟩) → ∃ S', bodyD N.length fb [d] S = .ok (.bl true) S') :
    FnOk P w K mg base (L2.CX P w) (k + 1) (He.fAd K p) fd ["script"] (spLaw K T n) := by
  obtain ⟨oc, od, dV, kV, doc, pm, an, cdv, ct, osl, rfl, lk, hcd, _, _⟩ := F.ex
  obtain ⟨c, hc⟩ := He.codeIn_ref hcd
  have ec : He.codeOf K p = c := He.codeOf_eq lk hc
  subst hc
  subst ec
  refine fn_of lk hcd S (fun vs H Q E ⟨a, ns, h1, _⟩ => by rw [h1]; rfl) fun A outer s H vs Q E hr ⟨a, ns, h1, h2, h3, h4, h5, h6⟩ => ?_
  subst h1
  obtain ⟨G', hG'⟩ : ∃ G', G' = G (cellsFrom (s.heap.objs.size + 1) scope.names []) := ⟨_, rfl⟩
  have hb := hbody A outer s H E hr (takes_of rfl rfl rfl rfl)
  rw [← hG'] at hb
  have hK' : G'.K = K := by rw [hG']; exact hK _
  have hT' : G'.T H := by rw [hG', hT]; exact h5
  have key : ∃ (d : D) (S0 : Sto) (μ : Nat → Addr), ((d = .kl (ns.map .int) ∧ S0 = ⟨[], []⟩) ∨ (d = .ref 0 ∧ ∃ lk : List Nat, (∀ l ∈ lk, l = 0) ∧ S0 = ⟨[.lst (ns.map .int)], lk⟩)) ∧ Lnk G' μ S0 H ∧ RVs G' μ S0.n H [d] [.ref a] := by
    rcases h2 with h2 | h2
    · have lnk : ∀ lk, (∀ l, l ∈ lk → l = 0) → Held ((⟨[.lst (ns.map .int)], lk⟩ : Sto).locked 0) H a (.lst (ns.map V.int)) → Lnk G' (fun _ => a) ⟨[.lst (ns.map .int)], lk⟩ H := fun lk hlk hh =>
        ⟨fun l hl l' hl' _ => by
          have e1 : l < 1 := hl
          have e2 : l' < 1 := hl'
          omega, fun l o e => by
          cases l with
          | zero =>
            cases e
            exact ⟨_, hh, rvs_int ns⟩
          | succ l => simp at e, hT', fun l hl => by rw [hlk l hl]; exact Nat.zero_lt_one⟩
      rcases h2 with h2 | ⟨o, h2⟩
      · exact ⟨.ref 0, ⟨[.lst (ns.map .int)], []⟩, fun _ => a, .inr ⟨rfl, _, (fun l hl => by cases hl), rfl⟩, lnk [] (fun l hl => by cases hl) h2, _, _, rfl, ⟨Nat.zero_lt_one, rfl⟩, rfl⟩
      · exact ⟨.ref 0, ⟨[.lst (ns.map .int)], [0]⟩, fun _ => a, .inr ⟨rfl, _, (fun l hl => List.mem_singleton.mp hl), rfl⟩, lnk [0] (fun l hl => List.mem_singleton.mp hl) ⟨o, h2⟩, _, _, rfl, ⟨Nat.zero_lt_one, rfl⟩, rfl⟩
    · refine ⟨.kl (ns.map .int), ⟨[], []⟩, fun _ => a, .inl ⟨rfl, rfl⟩, ⟨fun l hl => absurd (show l < 0 from hl) (Nat.not_lt_zero _), fun l o e => by simp at e, hT', fun l hl => by cases hl⟩, _, _, rfl, ⟨a, _, rfl, ?_, rvs_int ns⟩, rfl⟩
      rw [hK']
      exact h2
  obtain ⟨d, S0, μ, hd, L, r⟩ := key
  obtain ⟨S', e⟩ := hm ns d S0 h3 h4 hd
  refine ⟨_, hb, startD N.length [d], S0, μ, ⟨ren_start r, L⟩, ?_⟩
  have p' : Post G' μ S0 H E (fun d S1 μ1 H1 => ∀ v, RV G' μ1 S1.n H1 d v → Q v H1) (bodyD N.length fb [d] S0) := by
    rw [e]
    intro μ' H' st v rv
    have rv : v = .bl true := rv
    rw [rv]
    exact h6 H'
  refine (Post.bind (k := fun (fl : Fl) => match fl with
    | .nx _ => M.pure .non
    | .rt d => M.pure d
    | _ => M.stk) p').mono fun fl S1 μ1 H1 s1 q => ?_
  cases fl with
  | nx σd => exact fun σ en => (Post.here (W := E) s1.lnk q) _ rfl
  | rt d => exact fun v rv => (Post.here (W := E) s1.lnk q) v rv
  | bk σd => exact q.elim
  | ct σd => exact q.elim
end
theorem takesN {X : Cx} : TakesD X NoX := LamX.takes0
end Fd

set_option Elab.async false
set_option linter.all false
set_option maxRecDepth 100000
set_option maxHeartbeats 1000000
namespace Fd
open PySem PySem.Spec PyProof.Rows L2
section
variable {X : Cx} {G : Gx} {W : XK} {pins : List (Addr × Obj)} {σ : L2.St} {H : Hp} {s : Shared} {μ : Nat → Addr} {S : Sto} {a b e o : Expr} {fa fb fe : En → M D} {pos : Pos}
/-! ### sorted of what was collected -/
theorem sort_tail {A : Around} {E : Value → Shared → Prop} {Qf : PySem.Fin → Shared → Prop} {Q : VK} {ds : List D} {vs : List V} {us : List Value} {ps : List PyData} (own : Bool) (hK : G.K = X.K) (hu : A.units + 20 < cLine) (I : Inv X pins σ H s) (L : Lnk G μ S H) (r : RVs G μ S.n H ds vs) (rv : Vals vs us)
    (e2 : pysD S ds = some ps) (hc : (alikeC ps && sortableC ps) = true) (hz : us.length ≤ sizeLine) (p : Post G μ S H W (WQ G Q) (if own = true then newL (sortP (ds.zip ps)) S else .ok (.lst (sortP (ds.zip ps))) S))
    (hQ : ∀ l s', EP X pins σ Q (.ref l) s' → Qf (.done (.ret (.ref l))) s') :
    wpAny (model X.prog X.w) A (newList us >>= fun l => (holding [l] (call (.builtin "list.sort") [l] [])) >>= fun _ => ret l) Qf E s := by
  rw [Bool.and_eq_true] at hc
  obtain ⟨i1, i2, i3, i4, i5⟩ := data_rows hK I L r rv e2
  have hmap : ((ds.zip ps).zip vs).map (·.1) = ds.zip ps := zip_fst i2
  have hps : ((ds.zip ps).zip vs).map (fun b => b.1.2) = ps := by
    have : ((ds.zip ps).zip vs).map (fun b => b.1.2) = (((ds.zip ps).zip vs).map (·.1)).map (·.2) := by rw [List.map_map]; rfl
    rw [this, hmap, List.map_snd_zip (Nat.le_of_eq i1.symm)]
  have hlen : ((ds.zip ps).zip vs).length = vs.length := by rw [List.length_zip, i2, Nat.min_self]
  refine wpAny_bind (wpAny_newList ?_ hz)
  have ho : (s.heap.push (PyProof.Rows.seqObj "list" us.toArray 0)).get? s.heap.objs.size = some (PyProof.Rows.seqObj "list" us.toArray 0) := Heap.get?_push_size _ rfl
  show wpAny _ _ _ _ _ { s with heap := s.heap.push (PyProof.Rows.seqObj "list" us.toArray 0) }
  have er' : PySem.W.EachIs (fun v (b : (D × PyData) × V) => ∃ as, Reads (PySem.W.sortingHeap (s.heap.push (PyProof.Rows.seqObj "list" us.toArray 0)) s.heap.objs.size us) v b.1.2 as) us ((ds.zip ps).zip vs) :=
    i4.mono fun _ _ ⟨as, q⟩ => ⟨as, PyProof.Rows.Reads.keeps (fun b o e => PySem.W.sortingHeap_old (Nat.ne_of_lt (Heap.lt_size e)) (Heap.get?_push_of_some _ e)) q⟩
  have hal : PySem.W.AllAlike (((ds.zip ps).zip vs).map fun b => b.1.2) := by rw [hps]; exact alike_of hc.1
  have hso : PySem.W.Sortable (((ds.zip ps).zip vs).map fun b => b.1.2) := by rw [hps]; exact sortable_of hc.2
  refine wpAny_bind (wpAny_holding (wpAny_call_entry PyProof.Rows.slot_list_sort ⟨_, ho, rfl⟩ PyProof.Rows.entry_list_sort (PySem.W.list_sort_vals (κ := PySem.W.dataKind (PySem.W.sortingHeap (s.heap.push (PyProof.Rows.seqObj "list" us.toArray 0)) s.heap.objs.size us) (((ds.zip ps).zip vs).map fun b => b.1.2)) ho
    (PySem.W.SortsAt.data (s := { s with heap := PySem.W.sortingHeap (s.heap.push (PyProof.Rows.seqObj "list" us.toArray 0)) s.heap.objs.size us }) (PySem.W.each_map (R := fun v d => ∃ as, Reads (PySem.W.sortingHeap (s.heap.push (PyProof.Rows.seqObj "list" us.toArray 0)) s.heap.objs.size us) v d as) (fun b : (D × PyData) × V => b.1.2) er') hal hso ?_) hz ⟨.none, rfl, ?_⟩) (PyProof.Rows.args_list_sort _)))
  · intro d hd
    obtain ⟨b, hb, rfl⟩ := List.mem_map.mp hd
    have := (i5 b hb).2
    show A.units + 1 + _ < cLine
    omega
  · have eo := PySem.W.sortVals_data (enc := fun b : (D × PyData) × V => b.1.2) false i3 er' hal
    generalize hbs : ((ds.zip ps).zip vs).mergeSort (PySem.W.dataLe false fun b : (D × PyData) × V => b.1.2) = bs at eo
    have hmem : ∀ b ∈ bs, b ∈ (ds.zip ps).zip vs := fun b hb => by
      rw [← hbs] at hb
      exact List.mem_mergeSort.mp hb
    have hsort : bs.map (·.1.1) = sortP (ds.zip ps) := by
      have e5 : bs.map (·.1.1) = (bs.map (·.1)).map (·.1) := by rw [List.map_map]; rfl
      have e7 := List.map_mergeSort (r := PySem.W.dataLe false fun b : (D × PyData) × V => b.1.2) (s := fun a b : D × PyData => !PySem.W.dataLt b.2 a.2) (f := fun b : (D × PyData) × V => b.1) (l := (ds.zip ps).zip vs) (fun a _ b _ => rfl)
      rw [e5, ← hbs, e7, hmap]
      exact sortP_eq _
    have rr : RVs G μ S.n H (sortP (ds.zip ps)) (bs.map (·.2)) := by
      rw [← hsort]
      exact rows_rvs fun b hb => (i5 b (hmem b hb)).1
    have hvv := each_vals eo
    obtain ⟨c, hat⟩ := PyProof.Rows.sortedHeap_at (vs := us) (out := (PySem.W.sortVals (PySem.W.dataKind (PySem.W.sortingHeap (s.heap.push (PyProof.Rows.seqObj "list" us.toArray 0)) s.heap.objs.size us) (((ds.zip ps).zip vs).map fun b => b.1.2)) false us us).toArray) ho
    have hn : H s.heap.objs.size = none := I.hok.fresh (Nat.le_refl _)
    refine wpAny_pure (hQ s.heap.objs.size _ ⟨.ref s.heap.objs.size, upd H s.heap.objs.size (.lst (bs.map (·.2))), ?_, rfl, mk_lst L rr p _ hn⟩)
    refine I.laid (t' := s.toks) (fun b o e => ?_) (Nat.le_refl _) ⟨by rw [List.length_map, ← hbs, List.length_mergeSort, hlen]; rw [rv.length]; exact hz, _, c, hvv, hat⟩
    have hb : b < s.heap.objs.size := Heap.lt_size e
    rw [PyProof.Rows.sortedHeap_old (Nat.ne_of_lt hb) (by show b < (s.heap.push _).objs.size; rw [Heap.size_push]; exact Nat.lt_succ_of_lt hb)]
    exact Heap.get?_push_of_some _ e
/-- sorted(d) of a dict: its keys -/
def sortK (S : Sto) : D → Option (List D) := fun d => match dctD S d with
  | some (false, kvs) => some (kvs.map fun p => dkD p.1)
  | _ => none
def sortKC (own : Bool) : List D → M D := fun ds S => match ds with
  | [d] => (match sortK S d with
    | some xs => (match pysD S xs with
      | some ps => if (alikeC ps && sortableC ps) = true then (if own = true then newL (sortP (xs.zip ps)) S else .ok (.lst (sortP (xs.zip ps))) S) else .stk
      | none => .stk)
    | none => .stk)
  | _ => .stk
theorem cd_sortedK (own : Bool) (hK : G.K = X.K) (hc : X.calm = true) (hu : X.A.units + 64 < cLine) : CallD X G W (.builtin "sorted") (sortKC own) := by
  intro pins s σ H vs us Q I rv ⟨ds, S, μ, L, r, p⟩
  unfold sortKC at p
  match ds, r, p with
  | [d], r, p =>
    obtain ⟨v, rfl, rd⟩ := rvs1 r
    simp only at p
    unfold sortK at p
    cases e0 : dctD S d with
    | none => rw [e0] at p; exact p.elim
    | some tk =>
      obtain ⟨t, kvs⟩ := tk
      rw [e0] at p
      cases t with
      | true => exact p.elim
      | false =>
        simp only at p
        cases e2 : pysD S (kvs.map fun p => dkD p.1) with
        | none => rw [e2] at p; exact p.elim
        | some ps =>
          rw [e2] at p
          simp only at p
          by_cases hcc : (alikeC ps && sortableC ps) = true
          · rw [if_pos hcc] at p
            obtain ⟨a, ws, o, rfl, hd, ho, rk⟩ := dctD_ok L rd e0
            rw [Vals.ref1 rv]
            cases ho with
            | k l =>
              obtain ⟨z, lo, vv, rel, dd⟩ := dk_rd I.hok hd
              obtain ⟨ep, hat⟩ := dd.dictAt
              have ek : (l.map fun kv => kV kv.1) = vv.map fun p => kV p.1 := by
                have e := congrArg (List.map kV) rel.keys
                rw [List.map_map, List.map_map] at e
                exact e
              refine Calls.call_function_entry PyProof.Rows.kind_sorted PyProof.Rows.plain_sorted PyProof.Rows.entry_sorted (PyProof.Rows.args_sorted1 _) ?_
              unfold Builtin.«sorted»
              refine wpAny_bind (m := checkCount "sorted" 1 1 _) (wpAny_pure ?_)
              refine wpAny_bind (PySem.W.kdu_collect (A := X.A.in1) (PySem.W.kdl_dict (knd := mixKind X.prog X.w) (kvs := vv) (ep := ep) lo) (I.ok.hd hc) hat (by rw [← rel.length]; exact z) fun h' tk acc hk hacc => ?_)
              have hv : Vals (vv.map fun p => kV p.1) acc.toList := keys_at (by rw [Array.length_toList]; exact hacc.1) fun j v e => hacc.2 j v (by rw [← Array.getElem?_toList]; exact e)
              rw [← ek] at hv
              have I1 : Inv X pins σ H { s with heap := h', toks := tk } := I.kept hk
              exact sort_tail own hK (by show X.A.units + 1 + 20 < cLine; omega) I1 L (rvs_keys rk) hv e2 hcc (by rw [← hv.length, List.length_map]; exact z) p fun l s' hl => ⟨_, rfl, hl⟩
          · rw [if_neg hcc] at p; exact p.elim
  | [], _, p => exact p.elim
  | _ :: _ :: _, _, p => exact p.elim
/-- sorted, of a list or of a dict's keys -/
def sortedA (own : Bool) : List D → M D := altC (fun ds S => match ds with
  | [d] => (dctD S d).isSome
  | _ => false) (sortKC own) (sortedC own)
theorem cd_sortedA (own : Bool) (hK : G.K = X.K) (hc : X.calm = true) (hu : X.A.units + 64 < cLine) : CallD X G W (.builtin "sorted") (sortedA own) := callD_alt _ (cd_sortedK own hK hc hu) (cd_sorted own hK hu)
/-! ### operators of several kinds -/
theorem opD_alt {f : Value → Value → Sem Value} {o1 o2 : D → D → M D} (c : D → D → Sto → Bool) (h1 : OpD X G W f o1) (h2 : OpD X G W f o2) : OpD X G W f (alt2 c o1 o2) := fun pins s σ H x y v u Q I rx ry ⟨d, e, S, μ, L, r1, r2, p⟩ => by
  unfold alt2 at p
  by_cases hc : c d e S = true
  · simp only [hc, if_true] at p
    exact h1 pins s σ H x y v u Q I rx ry ⟨d, e, S, μ, L, r1, r2, p⟩
  · simp only [hc, if_false] at p
    exact h2 pins s σ H x y v u Q I rx ry ⟨d, e, S, μ, L, r1, r2, p⟩
def isI : D → Bool
  | .int _ => true
  | _ => false
def isT : D → Bool
  | .tup _ => true
  | _ => false
def addA : D → D → M D := alt2 (fun x _ _ => isI x) addI (alt2 (fun x _ _ => isStr x) addS (alt2 (fun x _ _ => isT x) addT addL))
theorem od_addA : OpD X G W (binaryOp .Add) addA := opD_alt _ od_addI (opD_alt _ od_addS (opD_alt _ od_addT od_addL))
def mulA : D → D → M D := alt2 (fun x _ _ => isI x) mulI repL
theorem od_mulA : OpD X G W (binaryOp .Mult) mulA := opD_alt _ od_mulI od_repL
def ltA : D → D → M D := alt2 (fun x _ _ => isI x) ltI ltD
theorem od_ltA (hK : G.K = X.K) (hu : X.A.units + 64 < cLine) : OpD X G W (compareOp .Lt) ltA := opD_alt _ od_ltI (od_ltD hK hu)
def eqA : D → D → M D := alt2 (fun x _ S => (dctD S x).isSome) eqDO eqD
theorem od_eqA (hK : G.K = X.K) (hu : X.A.units + 64 < cLine) : OpD X G W (compareOp .Eq) eqA := opD_alt _ (od_eqDO hK hu) (od_eqD hK hu)
def neA : D → D → M D := alt2 (fun x _ S => (dctD S x).isSome) neDO neD
theorem od_neA (hK : G.K = X.K) (hu : X.A.units + 64 < cLine) : OpD X G W (compareOp .NotEq) neA := opD_alt _ (od_neDO hK hu) (od_neD hK hu)
/-! ### -i -/
def negV (fe : En → M D) : En → M D := fun σ => fe σ >>= fun d => match d with
  | .int i => M.pure (D.int (-i))
  | _ => M.stk
theorem se_neg (he : SE X G W e fe) : SE X G W (.UnaryOp .USub e pos) (negV fe) := pe_imp (pe_un un_neg he) fun σ H Q ⟨σd, S, μ, a0, p⟩ => by
  refine rdE_bind (k := fun _ (d : D) => match d with
    | .int i => M.pure (D.int (-i))
    | _ => M.stk) a0 p fun d S1 μ1 H1 v s1 a1 rv p => ?_
  cases d with
  | int i => exact ⟨i, rv, (Post.here (W := W) a1.lnk p) _ rfl⟩
  | _ => exact p.elim
/-! ### range(a, b) -/
def rngC : List D → M (List D) := fun ds => match ds with
  | [x, y] => (match x, y with
    | .int i, .int j => if -(2 ^ 62) ≤ i ∧ i < 2 ^ 62 ∧ -(2 ^ 62) ≤ j ∧ j < 2 ^ 62 then M.pure (rangeI i (j - i).toNat) else M.stk
    | _, _ => M.stk)
  | _ => M.stk
def rngA (fr : En → M (List D)) : En → M (List D) := fun σ => fr σ >>= rngC
theorem rngC_ok {Q : List D → Sto → (Nat → Addr) → Hp → Prop} {ds : List D} {vs : List V} (r : RVs G μ S.n H ds vs) (h : Post G μ S H W Q (rngC ds S)) : ∃ i j : Int, vs = [.int i, .int j] ∧ (-(2 ^ 62) ≤ i ∧ i < 2 ^ 62 ∧ -(2 ^ 62) ≤ j ∧ j < 2 ^ 62) ∧ Post G μ S H W Q (.ok (rangeI i (j - i).toNat) S) := by
  unfold rngC at h
  match ds, r, h with
  | [x, y], r, h =>
    obtain ⟨v, w, rfl, rx, ry⟩ := rvs2 r
    cases x with
    | int i => cases y with
      | int j =>
        have rx : v = .int i := rx
        have ry : w = .int j := ry
        subst rx ry
        simp only at h
        by_cases hc : -(2 ^ 62) ≤ i ∧ i < 2 ^ 62 ∧ -(2 ^ 62) ≤ j ∧ j < 2 ^ 62
        · rw [if_pos hc] at h
          exact ⟨i, j, rfl, hc, h⟩
        · rw [if_neg hc] at h; exact h.elim
      | _ => exact h.elim
    | _ => cases y <;> exact h.elim
  | [], _, h => exact h.elim
  | [_], _, h => exact h.elim
  | _ :: _ :: _ :: _, _, h => exact h.elim
theorem si_range2 {tg : Expr} {p : Pos} {fr : En → M (List D)} (hm : X.mg "range" = none) (ha : SA X G W [a, b] fr) (hg : Gl X "range" := by rfl) (hs : starEach [a, b] X.env = [(false, eval a X.env), (false, eval b X.env)] := by rfl)
    (hs2 : starEach [b] X.env = [(false, eval b X.env)] := by rfl) : SI X G W tg (.Call (.Name "range" p) [a, b] [] pos) (rngA fr) := by
  refine pi_imp (pi_range2 hg hm ha hs hs2) fun σ H R ⟨σd, S, μ, a0, h⟩ => ?_
  refine rdA_bind (k := fun _ ds => rngC ds) a0 h fun ds S1 μ1 H1 vs s1 a1 r h => ?_
  obtain ⟨i, j, e, hc, h⟩ := rngC_ok r h
  exact ⟨i, j, e, hc, (Post.here (W := W) a1.lnk h) _ (itok_range i _)⟩
/-! ### which object is locked -/
def locD (S : Sto) : D → Option Nat := fun d => match d with
  | .ref l => (match S.objs[l]? with
    | some (.lst _) => some l
    | some (.dct _ _) => some l
    | _ => none)
  | _ => none
def locV (i : Nat) : En → Sto → Option Nat := fun σ S => match σ[i]? with
  | some (some d) => locD S d
  | _ => none
def locF (i c : Nat) (f : Str) : En → Sto → Option Nat := fun σ S => match σ[i]? with
  | some (some d) => (match getF c S d with
    | some (_, fs) => (match fs.lookup f with
      | some x => locD S x
      | none => none)
    | none => none)
  | _ => none
/-- a def that is never reached -/
theorem fnD_stk {P : Program} {w : World} {mg : Str → Option Value} {base : Heap} {k : Nat} {f : Addr} {fd : FuncData} {ps : List Str} : FnD P w mg base G k f fd ps (fun _ => M.stk) :=
  ⟨fun vs H Q E ⟨ds, S, μ, h1, h2, _⟩ => h2.length.symm.trans h1, fun A outer s H args us vs Q E _ _ _ _ ⟨ds, S, μ, _, _, _, p⟩ => p.elim⟩
end
end Fd

set_option Elab.async false
set_option linter.all false
set_option maxRecDepth 100000
set_option maxHeartbeats 1000000
namespace Fd
open PySem PySem.Spec PyProof.Rows L2
/-! ### {k: v, ..}: an owned dict -/
abbrev FPs : Type := List ((En → M D) × (En → M D))
def pairsM : FPs → En → M (List (D × D))
  | [], _ => M.pure []
  | p :: r, σ => p.1 σ >>= fun k => p.2 σ >>= fun v => pairsM r σ >>= fun ps => M.pure ((k, v) :: ps)
def pairK : D × D → Option (DK × D) := fun p => (atomK p.1).map fun k => (.k k, p.2)
def dispFin (l : Nat) (ps : List (D × D)) : M D := fun S => match ps.mapM pairK with
  | some prs => if prs.length ≤ 15 ∧ S.locked l = false then (match S.objs[l]? with
    | some (.dct false []) => .ok (.ref l) (S.put l (.dct false (mergeD [] prs)))
    | _ => .stk) else .stk
  | none => .stk
def dispE (fps : FPs) : En → M D := fun σ S => (pairsM fps σ >>= fun ps => dispFin S.n ps) (S.push (.dct false []))
section
variable {X : Cx} {G : Gx} {W : XK} {μ : Nat → Addr} {S : Sto} {H : Hp} {σ : L2.St} {σd : En}
def RPs (G : Gx) (μ : Nat → Addr) (n : Nat) (H : Hp) : List (D × D) → List (V × V) → Prop := Paired fun p q => RV G μ n H p.1 q.1 ∧ RV G μ n H p.2 q.2
abbrev trD (G : Gx) (W : XK) (fps : FPs) : List (TE × TE) := fps.map fun p => (rdE G W p.1, rdE G W p.2)
theorem RPs.mono {μ' : Nat → Addr} {n n' : Nat} {H' : Hp} (m : ∀ d v, RV G μ n H d v → RV G μ' n' H' d v) {ps : List (D × D)} {vs : List (V × V)} (r : RPs G μ n H ps vs) : RPs G μ' n' H' ps vs := Paired.mapP r fun p q z => ⟨m _ _ z.1, m _ _ z.2⟩
theorem pairs_rd : ∀ {fps : FPs} {S : Sto} {μ : Nat → Addr} {H : Hp} {R : List (V × V) → Hp → Prop}, At G σd S μ σ H → Post G μ S H W (fun ps S' μ' H' => ∀ vs, RPs G μ' S'.n H' ps vs → R vs H') (pairsM fps σd S) → tPairs (trD G W fps) σ H R
  | [], S, μ, H, R, a, p => (Post.here (W := W) a.lnk p) [] .nil
  | f :: fps, S, μ, H, R, a, p => by
    refine rdE_bind (k := fun σ k => f.2 σ >>= fun v => pairsM fps σ >>= fun ps => M.pure ((k, v) :: ps)) a p fun k S1 μ1 H1 kv s1 a1 rk p => ?_
    refine rdE_bind (k := fun σ v => pairsM fps σ >>= fun ps => M.pure ((k, v) :: ps)) a1 p fun v S2 μ2 H2 vv s2 a2 rv p => ?_
    refine pairs_rd a2 ((Post.bind (k := fun ps => M.pure ((k, v) :: ps)) p).mono fun ps S3 μ3 H3 s3 p vs rs => ?_)
    exact (Post.here (W := W) s3.lnk p) _ (.cons ⟨(s2.trans s3).rv a1.lnk rk, s3.rv a2.lnk rv⟩ rs)
theorem prs_ok {n : Nat} : ∀ {ps : List (D × D)} {vs : List (V × V)} {prs : List (DK × D)}, RPs G μ n H ps vs → ps.mapM pairK = some prs → ∃ l : List (Key × V), vs = l.map (fun q => (kV q.1, q.2)) ∧ RVk G μ n H prs (l.map fun q => (DK.k q.1, q.2))
  | [], _, prs, .nil, e => by
    rw [List.mapM_nil] at e
    cases e
    exact ⟨[], rfl, rfl⟩
  | p :: ps, _, prs, .cons (b := q) h t, e => by
    rw [List.mapM_cons] at e
    cases e1 : pairK p with
    | none => rw [e1] at e; cases e
    | some x =>
      cases e2 : ps.mapM pairK with
      | none => rw [e1, e2] at e; cases e
      | some xs =>
        rw [e1, e2] at e
        cases e
        obtain ⟨l, h1, h2⟩ := prs_ok t e2
        unfold pairK at e1
        cases e3 : atomK p.1 with
        | none => rw [e3] at e1; cases e1
        | some k =>
          rw [e3] at e1
          cases e1
          have hq := atomK_ok h.1 e3
          refine ⟨(k, q.2) :: l, ?_, ⟨_, _, rfl, h.2, h2⟩⟩
          rw [h1, List.map_cons, ← hq]
theorem se_disp {fps : FPs} {keys : List (Option Expr)} {values : List Expr} {pos : Pos} (h : PPs X pos keys values (trD G W fps)) (hall : keys.all (·.isSome) = true := by rfl) (hl : keys.length = values.length := by rfl) (h0 : keys ≠ [] := by intro z; cases z)
    (h15 : keys.length ≤ 15 := by decide) : SE X G W (.Dict keys values pos) (dispE fps) := pe_imp (pe_disp h hall hl h0 h15) fun σ H Q ⟨σd, S, μ, a0, p⟩ => by
  intro q hq
  have st := own_dct (t := false) (kvs := []) (vs := []) a0.lnk hq (.k []) rfl
  have p := p.later st
  refine pairs_rd (a0.step st) ((Post.bind (k := fun ps => dispFin S.n ps) p).mono fun ps S1 μ1 H1 s1 p vs rs => ?_)
  have hlt : S.n < (S.push (.dct false [])).n := by rw [Sto.push_n]; exact Nat.lt_succ_self _
  have eq1 : μ1 S.n = q := (s1.grow.agr.2 S.n hlt).trans putMu_same
  unfold dispFin at p
  cases e1 : ps.mapM pairK with
  | none => rw [e1] at p; exact p.elim
  | some prs =>
    rw [e1] at p
    simp only at p
    by_cases hc : prs.length ≤ 15 ∧ S1.locked S.n = false
    · rw [if_pos hc] at p
      cases e2 : S1.objs[S.n]? with
      | none => rw [e2] at p; exact p.elim
      | some ob =>
        rw [e2] at p
        match ob, e2, p with
        | .dct false [], e2, p =>
          simp only at p
          obtain ⟨ws, o, h1, h2, h3⟩ := s1.lnk.ob _ _ e2
          rw [hc.2] at h1
          have h1 : H1 (μ1 S.n) = some o := h1
          have h3 : ws = [] := h3
          subst h3
          have ho : o = .dK [] := by
            generalize hw : ([] : List (DK × V)) = w at h2
            cases h2 with
            | k l =>
              cases l with
              | nil => rfl
              | cons _ _ => cases hw
          subst ho
          have hl1 : S.n < S1.n := Nat.lt_of_lt_of_le hlt s1.grow.agr.1
          obtain ⟨l, ev, rk⟩ := prs_ok rs e1
          have g := grow_put (u := .dK (mergeK [] l)) s1.lnk hl1 h1 (fun _ _ e => by cases e) (fun _ e => by cases e)
          have sp : Stp G μ1 S1 H1 μ1 (S1.put S.n (.dct false (mergeD [] prs))) (upd H1 (μ1 S.n) (.dK (mergeK [] l))) := Stp.put s1.lnk hl1 hc.2 h1 (fun _ _ e => by cases e) (fun _ e => by cases e) (fun _ e => by cases e) (fun _ e => by cases e)
            ⟨_, _, upd_same, .k _, RVk.mono g s1.lnk.tf _ _ (rvk_merge (l := []) (kvs := []) rk rfl)⟩
          rw [eq1] at sp h1
          refine ⟨h1, l, ev, ?_, Post.step sp p _ ⟨by rw [Sto.put_n]; exact hl1, by rw [eq1]⟩⟩
          have q1 := rk.length
          rw [List.length_map] at q1
          rw [← q1]
          exact hc.1
        | .dct true _, _, p => exact p.elim
        | .dct false (_ :: _), _, p => exact p.elim
        | .lst _, _, p => exact p.elim
        | .ins _ _, _, p => exact p.elim
    · rw [if_neg hc] at p; exact p.elim
/-! ### a lock where the walked thing is owned -/
def lockQ {α : Type} (g : En → Sto → Option Nat) (f : En → M α) : En → M α := fun σ S => match g σ S with
  | none => f σ S
  | some l => if S.locked l = true then f σ S else lockM g f σ S
theorem lockQ_cases {α : Type} {g : En → Sto → Option Nat} {f : En → M α} {Q : α → Sto → (Nat → Addr) → Hp → Prop} (h : Post G μ S H W Q (lockQ g f σd S)) : Post G μ S H W Q (f σd S) ∨ Post G μ S H W Q (lockM g f σd S) := by
  unfold lockQ at h
  cases e : g σd S with
  | none => rw [e] at h; exact .inl h
  | some l =>
    rw [e] at h
    simp only at h
    by_cases hl : S.locked l = true
    · simp only [hl, if_true] at h; exact .inl h
    · simp only [hl, if_false] at h; exact .inr h
theorem ss_lockQ (g : En → Sto → Option Nat) {st : Stmt} {f : En → M Fl} (h : SS X G W st f) : SS X G W st (lockQ g f) := by
  refine ⟨fun pins s σ H Dn I ⟨σd, S, μ, a, p⟩ => ?_⟩
  rcases lockQ_cases p with p | p
  · exact h.run pins s σ H Dn I ⟨σd, S, μ, a, p⟩
  · exact (ss_lock g h).run pins s σ H Dn I ⟨σd, S, μ, a, p⟩
theorem se_lockQ (g : En → Sto → Option Nat) {e : Expr} {fe : En → M D} (h : SE X G W e fe) : SE X G W e (lockQ g fe) := by
  refine ⟨fun pins s σ H Q I ⟨σd, S, μ, a, p⟩ => ?_⟩
  rcases lockQ_cases p with p | p
  · exact h.run pins s σ H Q I ⟨σd, S, μ, a, p⟩
  · exact (se_lock g h).run pins s σ H Q I ⟨σd, S, μ, a, p⟩
end
end Fd

set_option Elab.async false
set_option linter.all false
set_option maxRecDepth 100000
set_option maxHeartbeats 1000000
namespace Fd
open PySem PySem.Spec PyProof.Rows L2 LamX
/-! ### told, packed -/
/-- the def x stands at g: try: return a() / except er: return ret; er's class stands at CS -/
structure ToldF (K : PySem.W.Frag) (mg : Str → Option Value) (x ret : Str) (g CS : Addr) : Prop where
  ex : ∃ (a er : Str) (j : Nat) (pg : Arguments) (sg : Scope) (dV kV doc pm cdv ct oc : Value) (an od : Option Addr) (osl : Array (Option Value)) (Ng : List Str) (p1 p2 p3 p4 p5 p6 p7 p8 : Pos),
    K.lookup g = some ⟨oc, od, .func (PySem.W.fnOf x x pg [.Try [.Return (some (.Call (.Name a p1) [] [] p2)) p3] [.ExceptHandler (some (.Name er p4)) none [.Return (some (.Constant (.str ret) j p5)) p6] p7] [] [] p8] sg dV kV doc pm an cdv ct), osl⟩ ∧ PySem.W.codeIn K cdv x = true ∧
    L2.Binds K (PySem.W.fnOf x x pg [.Try [.Return (some (.Call (.Name a p1) [] [] p2)) p3] [.ExceptHandler (some (.Name er p4)) none [.Return (some (.Constant (.str ret) j p5)) p6] p7] [] [] p8] sg dV kV doc pm an cdv ct) [a] [] ∧ FnScope Ng [a] sg ∧ Ng[0]? = some a ∧ Vis sg a ∧
    sg.names.lookup er = some .globalImplicit ∧ mg er = some (.ref CS) ∧ (er == ("__debug__" : Str)) = false ∧ (a == ("__debug__" : Str)) = false ∧ (a == ("__classdict__" : Str)) = false
  at_ : mg x = some (.ref g)
  kp : PySem.W.keepIn K (.ref g) = true
theorem start0 {Ng : List Str} (f : Addr) : (L2.start Ng [V.ref f])[0]? = some (some (V.ref f)) := by
  unfold L2.start
  rfl
section
variable {X : Cx} {G : Gx} {W : XK} {p pos lpos : Pos} {params : Arguments} {body : Expr} {scope : Scope} {fb : En → M D}
theorem se_toldE {T : List (Addr × Str)} {x ret : Str} {g c P CS : Addr} {okc : Nat → Bool} (k : Nat) (F : ToldF X.K X.mg x ret g CS) (hT : G.T = Tabs T) (TB : TabB X.base X.mg c P) (hcode : X.env.code = .ref c) (hmT : (P, X.env.qual ++ "<lambda>") ∈ T) (hu : ∀ p ∈ T, p.1 = P → p.2 = X.env.qual ++ "<lambda>")
    (hr : Room (k + 2) X.A) (L : LamS X.env.scope scope) (hexc : ∀ i, okc i = true → PySem.W.exmOne X.K (.ref (G.cA i)) (.ref CS) = some true) (mp : MPc X G k scope body fb) (hg : Gl X x := by rfl) (hdef : defaultsOf params X.env = ([], []) := by rfl)
    (hbind : ∀ (q : Str) (cl : List (Str × Addr)) (pm cv ctv : Value), bindArgs (PySem.W.kla_fn "<lambda>" q params body scope cl pm cv ctv) ⟨[], []⟩ = pure [] := by intros; rfl) (hdb : (x == ("__debug__" : Str)) = false := by decide) :
    SE X G W (.Call (.Name x p) [.Lambda params body scope lpos] [] pos) (toldE okc ret fb) := by
  obtain ⟨a, er, j, pg, sg, dV, kV, doc, pm, cdv, ct, oc, an, od, osl, Ng, p1, p2, p3, p4, p5, p6, p7, p8, lk, hcg, hb, Sg, hN, hv, hge, hme, hde, hd, hcd⟩ := F.ex
  exact se_told (q0 := x) hT F.at_ F.kp lk hcg hb Sg hN hv hge hme hde start0 TB hcode hmT hu hr L hexc mp hg hdef hbind hdb hd hcd
theorem mpcs_of {k : Nat} : ∀ {ls : List LamT} {fbs : List (En → M D)}, Paired (fun (l : LamT) fb => MPc X G k l.2.2 l.2.1 fb ∧ LamS X.env.scope l.2.2 ∧ ∀ (q : Str) (cl : List (Str × Addr)) (pm cv ctv : Value), bindArgs (PySem.W.kla_fn "<lambda>" q l.1 l.2.1 l.2.2 cl pm cv ctv) ⟨[], []⟩ = pure []) ls fbs → MPcs X G k ls fbs
  | [], [], .nil => fun i l fb h => by simp at h
  | l0 :: ls, f0 :: fbs, .cons h t => fun i l fb h1 h2 => by
    cases i with
    | zero =>
      cases h1
      cases h2
      exact h
    | succ i => exact mpcs_of t i l fb h1 h2
/-- told(f) != '..', f one of the frame's lambdas, as a comprehension's condition -/
theorem st_toldf {pins : List (Addr × Obj)} {σ0 : L2.St} {s3 : Shared} {H2 : Hp} {C : Addr} {cl : List (Str × Addr)} {fp : List Addr} {cscope : Scope} {vs : List Nat} {x ret z zz : Str} {g CS : Addr} {jz jj : Nat} {okc : Nat → Bool} {pf p9 : Pos} {op : CmpOp} {o : D → D → M D}
    {ls : List LamT} {fbs : List (En → M D)} (k : Nat) (F : ToldF X.K X.mg x ret g CS) (hop : OpD (X.blk s3 H2 cscope (compEnvC cscope cl C X.env) fp) G NoX (compareOp op) o) (I3 : Inv X pins σ0 H2 s3) (hfp : ∀ b ∈ fp, FpOk X pins H2 b) (hl : G.lamP = lamPX X.env.qual X.env.cells ls)
    (hr : Room (k + 2) X.A) (hexc : ∀ i, okc i = true → PySem.W.exmOne X.K (.ref (G.cA i)) (.ref CS) = some true) (mp : MPcs X G k ls fbs) (hN : X.N[jz]? = some z := by rfl) (hv : Vis (compEnvC cscope cl C X.env).scope z := by first | exact Or.inl rfl | exact Or.inr (Or.inl rfl) | exact Or.inr (Or.inr rfl))
    (hgx : (compEnvC cscope cl C X.env).kindOf x = some .globalImplicit := by rfl) (hzd : (z == ("__debug__" : Str)) = false := by decide) (hzc : (z == ("__classdict__" : Str)) = false := by decide) (hdb : (x == ("__debug__" : Str)) = false := by decide)
    (hm : behindInMarks op (.Constant (.str zz) jj p9) = false := by first | exact nobehind _ (by decide) (by decide) | rfl) :
    PT (X.blk s3 H2 cscope (compEnvC cscope cl C X.env) fp) (.Compare (.Call (.Name x p) [.Name z pf] [] lpos) [op] [.Constant (.str zz) jj p9] pos) (rdTw G NoX σ0 vs (tst1 (bin2 o (toldV okc ret vs jz fbs) (cst (.str zz))))) := by
  obtain ⟨a, er, j, pg, sg, dV, kV, doc, pm, cdv, ct, oc, an, od, osl, Ng, p1, p2, p3, p4, p5, p6, p7, p8, lk, hcg, hb, Sg, hNg, hva, hge, hme, hde, hd, hcd⟩ := F.ex
  have h1 := se_toldf (pf := pf) (pos := lpos) (p := p) (vs := vs) I3 hfp hl F.at_ F.kp lk hcg hb Sg hNg hva hge hme hde start0 hr hexc mp hN hv hgx hzd hzc hdb hd hcd
  refine pt_imp (pt_cmpR hop h1 (se_str (G := G) (W := NoX)) hm) fun σ H Q ⟨hw, σd, S, μ, a0, h⟩ => ⟨hw, ?_⟩
  have h := Post.bind (k := asB) h
  refine rd_bin2 (op := o) (fa := toldV okc ret vs jz fbs) (fb := cst (.str zz)) (r := rd2 G NoX o) (fun x y H Q q => q) σ H _ ⟨σd, S, μ, a0, h.mono fun d S1 μ1 H1 s1 p v rv => ?_⟩
  exact rd_asB s1.lnk rv p
end
/-! ### scopes, at once -/
def gscB (N : List Str) (sc scope : Scope) (own : List (Str × Nat)) : Bool := blkC N sc scope own && ((scope.names.all fun y => match y.2 with | .cell => false | _ => true) && (!scope.isCoroutine && (match scope.names.lookup (".0" : Str) with | some .local => true | _ => false)))
theorem GSc.by {X : Cx} {scope : Scope} {own : List (Str × Nat)} (h : gscB X.N X.env.scope scope own = true) : GSc X scope own := by
  unfold gscB at h
  simp only [Bool.and_eq_true, List.all_eq_true] at h
  obtain ⟨h1, h2, h3, h4⟩ := h
  refine ⟨blkOk_by h1, fun y hy e => ?_, by simpa using h3, ?_⟩
  · have q := h2 y hy
    rw [e] at q
    cases q
  · cases e : scope.names.lookup (".0" : Str) with
    | none => rw [e] at h4; cases h4
    | some k =>
      rw [e] at h4
      cases k with
      | «local» => rfl
      | _ => cases h4
/-- the lambdas of a written list -/
def lamsOf : Stmt → List LamT
  | .Assign _ (.List es _) _ => es.filterMap fun e => match e with
    | .Lambda ps b sc _ => some (ps, b, sc)
    | _ => none
  | _ => []
end Fd

set_option Elab.async false
set_option linter.all false
set_option maxRecDepth 100000
set_option maxHeartbeats 1000000
namespace Fd
open PySem PySem.Spec PyProof.Rows L2 LamX
/-! ### in, not in as conditions -/
section
variable {X : Cx} {G : Gx} {W : XK} {a b : Expr} {fa fb : En → M D} {pos : Pos} {op : CmpOp}
theorem pc_imp {t t' : TE} (h : PC X op a b t) (m : ∀ σ H Q, t' σ H Q → t σ H Q) : PC X op a b t' := ⟨fun pins s σ H Q I q => h.run pins s σ H Q I (m σ H Q q)⟩
theorem pc_or {t t' : TE} (h : PC X op a b t) (h' : PC X op a b t') : PC X op a b (fun σ H Q => t σ H Q ∨ t' σ H Q) := ⟨fun pins s σ H Q I q => q.elim (h.run pins s σ H Q I) (h'.run pins s σ H Q I)⟩
theorem alt_rd {o1 o2 : D → D → M D} (c : D → D → Sto → Bool) {σ : L2.St} {H : Hp} {Q : VK} (h : rdE G W (bin2 (alt2 c o1 o2) fa fb) σ H Q) : rdE G W (bin2 o1 fa fb) σ H Q ∨ rdE G W (bin2 o2 fa fb) σ H Q := by
  obtain ⟨σd, S, μ, a, h⟩ := h
  have key : ∀ o : D → D → M D, bin2 o fa fb σd S = (match fa σd S with
      | .ok x S1 => (match fb σd S1 with
        | .ok y S2 => o x y S2
        | .exc c S' => .exc c S'
        | .stk => .stk)
      | .exc c S' => .exc c S'
      | .stk => .stk) := fun o => by
    show M.bind (fa σd) (fun x => M.bind (fb σd) fun y => o x y) S = _
    unfold M.bind
    cases fa σd S with
    | ok x S1 => dsimp only; cases fb σd S1 <;> rfl
    | exc _ _ => rfl
    | stk => rfl
  rw [key] at h
  cases e1 : fa σd S with
  | exc c S' =>
    rw [e1] at h
    exact .inl ⟨σd, S, μ, a, by rw [key, e1]; exact h⟩
  | stk => rw [e1] at h; exact h.elim
  | ok x S1 =>
    simp only [e1] at h
    cases e2 : fb σd S1 with
    | exc c S' =>
      rw [e2] at h
      exact .inl ⟨σd, S, μ, a, by rw [key, e1]; simp only [e2]; exact h⟩
    | stk => rw [e2] at h; exact h.elim
    | ok y S2 =>
      simp only [e2] at h
      unfold alt2 at h
      by_cases hc : c x y S2 = true
      · rw [if_pos hc] at h
        exact .inl ⟨σd, S, μ, a, by rw [key, e1]; simp only [e2]; exact h⟩
      · rw [if_neg hc] at h
        exact .inr ⟨σd, S, μ, a, by rw [key, e1]; simp only [e2]; exact h⟩
abbrev SC (X : Cx) (G : Gx) (W : XK) (op : CmpOp) (a b : Expr) (f : En → M D) : Prop := PC X op a b (rdE G W f)
theorem sc_alt {o1 o2 : D → D → M D} (c : D → D → Sto → Bool) (h1 : SC X G W op a b (bin2 o1 fa fb)) (h2 : SC X G W op a b (bin2 o2 fa fb)) : SC X G W op a b (bin2 (alt2 c o1 o2) fa fb) := pc_imp (pc_or h1 h2) fun σ H Q h => alt_rd c h
theorem sc_op {o : D → D → M D} (ho : OpD X G W (compareOp op) o) (ha : SE X G W a fa) (hb : SE X G W b fb) : SC X G W op a b (bin2 o fa fb) :=
  ⟨fun pins s σ H Q I q => thn (ha.run pins s σ H _ I (rd_bin2 (fun _ _ _ _ h => h) σ H Q q)) fun v s1 ⟨x, H1, I1, r1, q1⟩ => thn (hb.run pins s1 σ H1 _ I1 q1) fun u s2 ⟨y, H2, I2, r2, q2⟩ => ho pins s2 σ H2 x y v u Q I2 r1 r2 q2⟩
theorem din_rd {d e : D} {x y : V} {S : Sto} {μ : Nat → Addr} {H : Hp} {Q : VK} {k : Bool} (L : Lnk G μ S H) (r2 : RV G μ S.n H e y) (r1 : RV G μ S.n H d x) (p : Post G μ S H W (fun d S' μ' H' => ∀ v, RV G μ' S'.n H' d v → Q v H') (dinO k e d S)) : ∃ a o, x = .ref a ∧ DGet H a y o ∧ Q (.bl (k == o.isSome)) H := by
  unfold dinO at p
  cases e1 : dctD S d with
  | none => rw [e1] at p; exact p.elim
  | some q =>
    obtain ⟨t, kvs⟩ := q
    rw [e1] at p
    cases e2 : keyD t e with
    | none => simp only [e2] at p; exact p.elim
    | some k =>
      obtain ⟨aa, o, h1, h2, h3⟩ := dget_ok L r1 e1 (keyD_ok r2 e2)
      simp only [e2] at p
      exact ⟨aa, o, h1, h2, (Post.here L p) _ (by show _ = _; rw [h3.some_eq])⟩
theorem sc_din (hu : X.A.units + 1 < cLine) (ha : SE X G W a fa) (hb : SE X G W b fb) : SC X G W .In a b (bin2 (dinO true) fa fb) :=
  pc_imp (pc_din hu ha hb) (rd_bin2 (r := fun y x H2 Q => ∃ a o, x = .ref a ∧ DGet H2 a y o ∧ Q (.bl o.isSome) H2) fun y x H Q ⟨e, d, S, μ, L, r2, r1, p⟩ => by
    obtain ⟨aa, o, h1, h2, h3⟩ := din_rd L r2 r1 p
    exact ⟨aa, o, h1, h2, by simpa using h3⟩)
theorem sc_dnotin (hu : X.A.units + 1 < cLine) (ha : SE X G W a fa) (hb : SE X G W b fb) : SC X G W .NotIn a b (bin2 (dinO false) fa fb) :=
  pc_imp (pc_dnotin hu ha hb) (rd_bin2 (r := fun y x H2 Q => ∃ a o, x = .ref a ∧ DGet H2 a y o ∧ Q (.bl (!o.isSome)) H2) fun y x H Q ⟨e, d, S, μ, L, r2, r1, p⟩ => by
    obtain ⟨aa, o, h1, h2, h3⟩ := din_rd L r2 r1 p
    exact ⟨aa, o, h1, h2, by simpa using h3⟩)
theorem st_sc {f : En → M D} (h : SC X G W op a b f) (hm : behindInMarks op b = false) : STe X G W (.Compare a [op] [b] pos) (tst1 f) := by
  refine pt_imp (pt_cmp h hm) fun σ H Q ⟨σd, S, μ, at_, h⟩ => ?_
  exact rdE_bind (k := fun _ => asB) at_ h fun d S1 μ1 H1 v s a1 rv h1 => rd_asB a1.lnk rv h1
theorem st_in (hK : G.K = X.K) (hu : X.A.units + 64 < cLine) (ha : SE X G W a fa) (hb : SE X G W b fb) (hm : behindInMarks .In b = false := by rfl) : STe X G W (.Compare a [.In] [b] pos) (tst1 (bin2 inO fa fb)) :=
  st_sc (sc_alt _ (sc_din (by omega) ha hb) (sc_alt _ (sc_op od_signIn ha hb) (sc_op (od_inD hK hu) ha hb))) hm
theorem st_notin (hK : G.K = X.K) (hu : X.A.units + 64 < cLine) (ha : SE X G W a fa) (hb : SE X G W b fb) (hm : behindInMarks .NotIn b = false := by rfl) : STe X G W (.Compare a [.NotIn] [b] pos) (tst1 (bin2 notinO fa fb)) :=
  st_sc (sc_alt _ (sc_dnotin (by omega) ha hb) (sc_alt _ (sc_op od_signNotin ha hb) (sc_op (od_notinD hK hu) ha hb))) hm
end
end Fd

set_option Elab.async false
set_option linter.all false
set_option maxRecDepth 100000
set_option maxHeartbeats 1000000
namespace Fd
open PySem PySem.Spec PyProof.Rows L2
/-! ### the end -/
section
variable {l : PySem.W.OpenLaw} {fa : List He.Fa} {fn : List He.DefD} {ts : List He.Tab} {tq : List TabQ} {w : World} {h : Heap} {K : PySem.W.Frag} {mg : Str → Option Value} {d : He.DefD} {k n i : Nat} {f : Addr}
def exQ (tq : List TabQ) (K : PySem.W.Frag) : Bool := decide (((TQ tq K).map (·.1)).Nodup)
theorem lawAtS_of (KX : K.In h) (Gh : h.Ns mainGlobals mg) (c : He.SaysX fa fn ts (tq.map (·.1)) (exQ tq) w h K) (hf : mg "law" = some (.ref f)) (hg : fa[i]? = some (.glo "law")) {j : Nat} (hd : fn[j]? = some d) (hat : d.at_ = (("law" : Str), (none : Option Str))) (hdf : d.dfl = [])
    (hbn : ∀ (kV doc pm : Value) (an : Option Addr) (cdv ct : Value) (us : List Value), us.length = ["script"].length → bindArgs (PySem.W.fnOf d.name d.qual d.params d.body d.scope .none kV doc pm an cdv ct) ⟨us, []⟩ = pure ((["script"] : List Str).zip us))
    (hF : ∀ base : Heap, Ev fa fn ts tq (exQ tq) w h K mg base → FnOk l.prog w K mg base (L2.CX l.prog w) k (He.fAd K d.at_) (fdOf K d.at_) ["script"] (spLaw K (TQ tq K) n)) : LamX.LawAtS l w K (L2.CX l.prog w) k n "script" mg f h := by
  have ev : ∀ base : Heap, (∀ p ∈ (tq.map (·.1)).map (He.cT K), LamX.TabB base mg p.1 p.2) → Ev fa fn ts tq (exQ tq) w h K mg base := fun base hB => ⟨KX, Gh, c, fun p hp => hB _ (List.mem_map.mpr ⟨p, hp, rfl⟩), of_decide_eq_true c.more⟩
  have ef : f = He.fAd K d.at_ := by
    have q := He.glo_ok KX Gh (c.t.d.fact i hg)
    rw [hf] at q
    rw [hat]
    cases q
    rfl
  subst ef
  obtain ⟨fd, F⟩ := c.t.d.def_ j hd
  have q : fdOf K d.at_ = fd := by
    obtain ⟨oc, od, dV, kV, doc, pm, an, cdv, ct, osl, e1, lk, _⟩ := F.ex
    unfold fdOf
    rw [lk]
  refine ⟨fdOf K d.at_, (tq.map (·.1)).map (He.cT K), spLaw K (TQ tq K) n, fun p hp => ?_, fun p hp => ?_, fun p hp => ?_, fun s u => ?_, fun H a ns hl hb hH hS => ?_, fun base _ _ hB => hF base (ev base hB)⟩
  · obtain ⟨x, hx, rfl⟩ := List.mem_map.mp hp
    exact c.empty x hx
  · obtain ⟨x, hx, rfl⟩ := List.mem_map.mp hp
    exact c.out x hx
  · obtain ⟨x, hx, rfl⟩ := List.mem_map.mp hp
    exact PySem.W.codeHd_of_K KX (c.hd x hx)
  · rw [q]
    have e0 : d.dvs K = [] := by unfold He.DefD.dvs; rw [hdf]; rfl
    rw [e0] at F
    exact FunD.bindsA (ps := ["script"]) F hbn s [u] rfl
  · refine ⟨a, ns, rfl, hS, hl, hb, fun p hp => ?_, fun _ => rfl⟩
    obtain ⟨x, hx, rfl⟩ := List.mem_map.mp hp
    exact LamX.TabS.nil (hH _ (List.mem_map.mpr ⟨x.1, List.mem_map.mpr ⟨x, hx, rfl⟩, rfl⟩))
theorem cx_none {P : Program} (w : World) (H : Hp) (s : Shared) (e : Value) (s' : Shared) (h : L2.CX P w [] H s (fun _ _ _ => False) e s') : False := by
  obtain ⟨_, _, _, _, _, _, _, _, _, _, _, _, z⟩ := h
  exact z.elim
end
end Fd

set_option Elab.async false
set_option linter.all false
set_option maxRecDepth 100000
set_option maxHeartbeats 1000000
namespace Fd
open PySem PySem.Spec PyProof.Rows L2
/-! ### a part that looks at no owned object, told in an empty store -/
mutual
/-- no owned object in it -/
def noRef : D → Bool
  | .ref _ => false
  | .lam _ => false
  | .tup ds => noRefs ds
  | .kt ds => noRefs ds
  | .ft ds => noRefs ds
  | .kl ds => noRefs ds
  | .lst ds => noRefs ds
  | .dct _ kvs => noRefk kvs
  | _ => true
def noRefs : List D → Bool
  | [] => true
  | d :: ds => noRef d && noRefs ds
def noRefk : List (DK × D) → Bool
  | [] => true
  | (_, d) :: ds => noRef d && noRefk ds
end
mutual
/-- atoms and tuples of such -/
def flat : D → Bool
  | .ref _ => false
  | .lam _ => false
  | .tup ds => flats ds
  | .kt ds => flats ds
  | .ft _ => false
  | .kl ds => flats ds
  | .lst _ => false
  | .dct _ _ => false
  | _ => true
def flats : List D → Bool
  | [] => true
  | d :: ds => flat d && flats ds
end
section
variable {G : Gx} {μ : Nat → Addr} {n : Nat} {S : Sto} {H : Hp}
theorem notOwn0 {μ : Nat → Addr} {a : Addr} : NotOwn μ 0 a := fun l hl => absurd hl (Nat.not_lt_zero _)
mutual
theorem rv_zero : ∀ (d : D) (v : V), noRef d = true → RV G μ n H d v → RV G μ 0 H d v
  | .non, _, _, h => h
  | .bl _, _, _, h => h
  | .int _, _, _, h => h
  | .str _, _, _, h => h
  | .tup ds, _, q, ⟨a, vs, h1, h2, h3⟩ => ⟨a, vs, h1, h2, rvs_zero ds vs q h3⟩
  | .kt ds, _, q, ⟨a, vs, h1, h2, h3⟩ => ⟨a, vs, h1, h2, rvs_zero ds vs q h3⟩
  | .kl ds, _, q, ⟨a, vs, h1, h2, h3⟩ => ⟨a, vs, h1, h2, rvs_zero ds vs q h3⟩
  | .ft ds, _, q, ⟨a, vs, od, h1, h2, h3, h4, h5⟩ => ⟨a, vs, od, h1, notOwn0, h3, h4, rvs_zero ds vs q h5⟩
  | .lst ds, _, q, ⟨a, vs, h1, h2, h3, h4⟩ => ⟨a, vs, h1, notOwn0, h3, rvs_zero ds vs q h4⟩
  | .dct t ds, _, q, ⟨a, vs, od, o, h1, h2, h3, h4, h5⟩ => ⟨a, vs, od, o, h1, notOwn0, h3, h4, rvk_zero ds vs q h5⟩
  | .ref _, _, q, _ => by cases q
  | .lam _, _, q, _ => by cases q
theorem rvs_zero : ∀ (ds : List D) (vs : List V), noRefs ds = true → RVs G μ n H ds vs → RVs G μ 0 H ds vs
  | [], _, _, h => h
  | d :: ds, _, q, ⟨v, r, h1, h2, h3⟩ => by
    have q := Bool.and_eq_true_iff.mp (show (noRef d && noRefs ds) = true from q)
    exact ⟨v, r, h1, rv_zero d v q.1 h2, rvs_zero ds r q.2 h3⟩
theorem rvk_zero : ∀ (ds : List (DK × D)) (vs : List (DK × V)), noRefk ds = true → RVk G μ n H ds vs → RVk G μ 0 H ds vs
  | [], _, _, h => h
  | (k, d) :: ds, _, q, ⟨v, r, h1, h2, h3⟩ => by
    have q := Bool.and_eq_true_iff.mp (show (noRef d && noRefk ds) = true from q)
    exact ⟨v, r, h1, rv_zero d v q.1 h2, rvk_zero ds r q.2 h3⟩
end
mutual
theorem rv_flat {μ' : Nat → Addr} {n' : Nat} : ∀ (d : D) (v : V), flat d = true → RV G μ n H d v → RV G μ' n' H d v
  | .non, _, _, h => h
  | .bl _, _, _, h => h
  | .int _, _, _, h => h
  | .str _, _, _, h => h
  | .tup ds, _, q, ⟨a, vs, h1, h2, h3⟩ => ⟨a, vs, h1, h2, rvs_flat ds vs q h3⟩
  | .kt ds, _, q, ⟨a, vs, h1, h2, h3⟩ => ⟨a, vs, h1, h2, rvs_flat ds vs q h3⟩
  | .kl ds, _, q, ⟨a, vs, h1, h2, h3⟩ => ⟨a, vs, h1, h2, rvs_flat ds vs q h3⟩
  | .ft _, _, q, _ => by cases q
  | .lst _, _, q, _ => by cases q
  | .dct _ _, _, q, _ => by cases q
  | .ref _, _, q, _ => by cases q
  | .lam _, _, q, _ => by cases q
theorem rvs_flat {μ' : Nat → Addr} {n' : Nat} : ∀ (ds : List D) (vs : List V), flats ds = true → RVs G μ n H ds vs → RVs G μ' n' H ds vs
  | [], _, _, h => h
  | d :: ds, _, q, ⟨v, r, h1, h2, h3⟩ => by
    have q := Bool.and_eq_true_iff.mp (show (flat d && flats ds) = true from q)
    exact ⟨v, r, h1, rv_flat d v q.1 h2, rvs_flat ds r q.2 h3⟩
end
abbrev Sto.e : Sto := ⟨[], []⟩
theorem Lnk.empty (L : Lnk G μ S H) : Lnk G μ Sto.e H := ⟨fun l hl => absurd hl (Nat.not_lt_zero _), fun l o e => by simp at e, L.tab, fun l hl => by cases hl⟩
/-- what a part did that knew no owned object -/
theorem Stp.forget (L : Lnk G μ S H) {μ' : Nat → Addr} {S' : Sto} {H' : Hp} (s : Stp G μ Sto.e H μ' S' H') : Stp G μ S H μ S H' := by
  have g : Grow μ S.n H μ S.n H' := ⟨.refl _ _, fun l h1 h2 => absurd h2 (by omega), fun a o e _ nt => s.grow.ext.keep a o e notOwn0 nt, s.grow.ext.frz, s.grow.ext.there⟩
  refine ⟨⟨L.inj, fun l o e => ?_, s.lnk.tab, L.lk⟩, g⟩
  have h := L.ob l o e
  obtain ⟨u, hu, nt, _⟩ := h.hd
  exact h.mono g L.tf ((s.grow.ext.keep _ u hu notOwn0 nt).trans hu.symm)
end
def freshD (den : List D → M D) : List D → M D := fun ds S => if noRefs ds = true then (match den ds Sto.e with
  | .ok d _ => if flat d = true then .ok d S else den ds S
  | .exc c _ => .exc c S
  | .stk => den ds S) else den ds S
theorem fnD_fresh {G : Gx} {P : Program} {w : World} {mg : Str → Option Value} {base : Heap} {k : Nat} {f : Addr} {fd : FuncData} {ps : List Str} {den : List D → M D} (F : FnD P w mg base G k f fd ps den) : FnD P w mg base G k f fd ps (freshD den) := by
  refine F.imp fun vs H Q E ⟨ds, S, μ, h1, h2, L, p⟩ => ?_
  unfold freshD at p
  by_cases hn : noRefs ds = true
  · rw [if_pos hn] at p
    have r0 := rvs_zero ds vs hn h2
    cases e : den ds Sto.e with
    | stk => rw [e] at p; exact ⟨ds, S, μ, h1, h2, L, p⟩
    | exc c S' =>
      rw [e] at p
      refine ⟨ds, Sto.e, μ, h1, r0, L.empty, ?_⟩
      rw [e]
      exact fun μ' H' s => p μ H' (Stp.forget L s)
    | ok d S' =>
      rw [e] at p
      simp only at p
      by_cases hf : flat d = true
      · rw [if_pos hf] at p
        refine ⟨ds, Sto.e, μ, h1, r0, L.empty, ?_⟩
        rw [e]
        exact fun μ' H' s v rv => p μ H' (Stp.forget L s) v (rv_flat d v hf rv)
      · rw [if_neg hf] at p
        exact ⟨ds, S, μ, h1, h2, L, p⟩
  · rw [if_neg hn] at p
    exact ⟨ds, S, μ, h1, h2, L, p⟩
/-- the rest of a def, told with an empty store and no slot known; it must return a flat thing -/
def freshS (g : En → M Fl) : En → M Fl := fun σ S => match g (σ.map fun _ => none) Sto.e with
  | .ok (.rt d) _ => if flat d = true then .ok (.rt d) S else .stk
  | _ => .stk
theorem sss_fresh {X : Cx} {G : Gx} {W : XK} {rest : List Stmt} {g : En → M Fl} (h : SSs X G W rest g) : SSs X G W rest (freshS g) := by
  refine ⟨fun pins s σ H Dn I ⟨σd, S, μ, a, p⟩ => h.run pins s σ H Dn I ?_⟩
  unfold freshS at p
  refine ⟨σd.map fun _ => none, Sto.e, μ, ⟨⟨by rw [List.length_map]; exact a.en.len, fun i d e => ?_⟩, a.lnk.empty⟩, ?_⟩
  · rw [List.getElem?_map] at e
    cases q : σd[i]? with
    | none => rw [q] at e; cases e
    | some x => rw [q] at e; cases e
  · cases e : g (σd.map fun _ => none) Sto.e with
    | stk => rw [e] at p; exact p.elim
    | exc c S' => rw [e] at p; exact p.elim
    | ok fl S' =>
      rw [e] at p
      cases fl with
      | rt d =>
        simp only at p
        by_cases hf : flat d = true
        · rw [if_pos hf] at p
          exact fun μ' H' s v rv => p μ H' (Stp.forget a.lnk s) v (rv_flat d v hf rv)
        · rw [if_neg hf] at p; exact p.elim
      | _ => exact p.elim
end Fd

set_option Elab.async false
set_option linter.all false
set_option maxRecDepth 100000
set_option maxHeartbeats 1000000
namespace Fd
open PySem PySem.Spec PyProof.Rows L2
/-! ### what a part of a denotation does, as a statement -/
def wp {α : Type} (m : M α) (S : Sto) (Q : α → Sto → Prop) (E : Nat → Sto → Prop) : Prop := match m S with
  | .ok a S' => Q a S'
  | .exc c S' => E c S'
  | .stk => False
section
variable {α β : Type} {S S' : Sto} {Q : α → Sto → Prop} {E : Nat → Sto → Prop} {σ : En}
theorem wp_bind (f : M α) (k : α → M β) (Q : β → Sto → Prop) : wp (f >>= k) S Q E = wp f S (fun a S' => wp (k a) S' Q E) E := by
  unfold wp
  show (match M.bind f k S with | .ok a S' => Q a S' | .exc c S' => E c S' | .stk => False) = _
  unfold M.bind
  cases f S <;> rfl
theorem wp_pure (a : α) : wp (M.pure a) S Q E = Q a S := rfl
theorem wp_ok (a : α) (S'' : Sto) : wp (fun _ => R.ok a S'') S Q E = Q a S'' := rfl
theorem wp_exc (c : Nat) : wp (M.exc c : M α) S Q E = E c S := rfl
theorem wp_stk : wp (M.stk : M α) S Q E = False := rfl
theorem wp_ite (c : Prop) [Decidable c] (f g : M α) : wp (if c then f else g) S Q E = if c then wp f S Q E else wp g S Q E := by
  by_cases h : c
  · rw [if_pos h, if_pos h]
  · rw [if_neg h, if_neg h]
theorem wp_of {m : M α} {a : α} (h : m S = .ok a S') (q : Q a S') : wp m S Q E := by unfold wp; rw [h]; exact q
theorem wp_eq {m : M α} {a : α} (h : m S = .ok a S') : wp m S Q E = Q a S' := by unfold wp; rw [h]
theorem wp_eqx {m : M α} {c : Nat} (h : m S = .exc c S') : wp m S Q E = E c S' := by unfold wp; rw [h]
theorem wp_mono {m : M α} {Q' : α → Sto → Prop} {E' : Nat → Sto → Prop} (h : wp m S Q E) (hq : ∀ a S', Q a S' → Q' a S') (he : ∀ c S', E c S' → E' c S') : wp m S Q' E' := by
  unfold wp at *
  cases e : m S with
  | ok a S1 => rw [e] at h; exact hq _ _ h
  | exc c S1 => rw [e] at h; exact he _ _ h
  | stk => rw [e] at h; exact h.elim
theorem wp_out {m : M α} (h : wp m S Q fun _ _ => False) : ∃ a S', m S = .ok a S' ∧ Q a S' := by
  unfold wp at h
  cases e : m S with
  | ok a S1 => rw [e] at h; exact ⟨a, S1, rfl, h⟩
  | exc c S1 => rw [e] at h; exact h.elim
  | stk => rw [e] at h; exact h.elim
/-- a call's own statement stands for the call -/
theorem wp_use {m : M α} {Q1 : α → Sto → Prop} {E1 : Nat → Sto → Prop} (h : wp m S Q1 E1) (k : wp m S Q1 E1 → ∀ a S', m S = .ok a S' → Q1 a S' → Q a S') (kx : ∀ c S', m S = .exc c S' → E1 c S' → E c S') : wp m S Q E := by
  have h0 := h
  unfold wp at h ⊢
  cases e : m S with
  | ok a S1 => rw [e] at h; exact k h0 a S1 e h
  | exc c S1 => rw [e] at h; exact kx c S1 e h
  | stk => rw [e] at h; exact h.elim
end
/-! ### operators at ints, texts -/
section
variable {S : Sto} {Q : D → Sto → Prop} {E : Nat → Sto → Prop}
theorem eqv_int (i j : Int) : PyData.eqv (.int i) (.int j) = decide (i = j) := by
  unfold PyData.eqv
  first | rfl | simp
theorem wp_addI (i j : Int) : wp (addA (.int i) (.int j)) S Q E = Q (.int (i + j)) S := rfl
theorem wp_subI (i j : Int) : wp (subI (.int i) (.int j)) S Q E = Q (.int (i - j)) S := rfl
theorem wp_mulI {i j : Int} (h : (-(2 ^ 64) < i ∧ i < 2 ^ 64) ∨ (-(2 ^ 64) < j ∧ j < 2 ^ 64)) : wp (mulA (.int i) (.int j)) S Q E = Q (.int (i * j)) S := by
  refine wp_eq ?_
  show (if _ then _ else _ : M D) S = _
  rw [if_pos]
  · rfl
  · simp only [Bool.or_eq_true, Bool.and_eq_true, decide_eq_true_eq]
    exact h
theorem wp_modI {i j : Int} (h : 0 < j) : wp (modI (.int i) (.int j)) S Q E = Q (.int (i % j)) S := by
  refine wp_eq ?_
  show (if _ then _ else _ : M D) S = _
  rw [if_pos (decide_eq_true h)]
  rfl
theorem wp_fdvI {i j : Int} (h : 0 < j) (h2 : j < 1073741824) : wp (fdvI (.int i) (.int j)) S Q E = Q (.int (i / j)) S := by
  refine wp_eq ?_
  show (if _ then _ else _ : M D) S = _
  rw [if_pos (by show (decide (0 < j) && decide (j < 1073741824)) = true; rw [decide_eq_true h, decide_eq_true h2]; rfl)]
  rfl
theorem wp_ltI (i j : Int) : wp (ltA (.int i) (.int j)) S Q E = Q (.bl (decide (i < j))) S := rfl
theorem wp_leI (i j : Int) : wp (leI (.int i) (.int j)) S Q E = Q (.bl (decide (i ≤ j))) S := rfl
theorem wp_gtI (i j : Int) : wp (gtI (.int i) (.int j)) S Q E = Q (.bl (decide (j < i))) S := rfl
theorem wp_geI (i j : Int) : wp (geI (.int i) (.int j)) S Q E = Q (.bl (decide (j ≤ i))) S := rfl
theorem wp_eqI (i j : Int) : wp (eqA (.int i) (.int j)) S Q E = Q (.bl (decide (i = j))) S := by
  refine wp_eq ?_
  show R.ok (D.bl (PyData.eqv (.int i) (.int j))) S = _
  rw [eqv_int]
theorem wp_neI (i j : Int) : wp (neA (.int i) (.int j)) S Q E = Q (.bl (!decide (i = j))) S := by
  refine wp_eq ?_
  show R.ok (D.bl (!PyData.eqv (.int i) (.int j))) S = _
  rw [eqv_int]
theorem wp_asB (b : Bool) {Q : Bool → Sto → Prop} : wp (asB (.bl b)) S Q E = Q b S := rfl
theorem wp_intI (i : Int) : wp (intC [.int i]) S Q E = Q (.int i) S := rfl
theorem wp_intB (b : Bool) : wp (intC [.bl b]) S Q E = Q (.int (if b then 1 else 0)) S := rfl
end
/-! ### objects -/
theorem put_at {S : Sto} {l : Nat} {o : SO} (h : l < S.objs.length) : (S.put l o).objs[l]? = some o := by
  show (S.objs.set l o)[l]? = _
  rw [List.getElem?_set_self h]
theorem put_ne {S : Sto} {l k : Nat} {o : SO} (h : l ≠ k) : (S.put l o).objs[k]? = S.objs[k]? := by
  show (S.objs.set l o)[k]? = _
  rw [List.getElem?_set_ne h]
theorem put_put (S : Sto) (l : Nat) (o o' : SO) : (S.put l o).put l o' = S.put l o' := by
  show (⟨(S.objs.set l o).set l o', _⟩ : Sto) = ⟨S.objs.set l o', _⟩
  rw [List.set_set]
theorem set_lst {S : Sto} {l : Nat} {ds : List D} {i : Int} {j : Nat} {v : D} (ho : S.objs[l]? = some (.lst ds)) (hl : S.locked l = false) (hj : ixN ds.length i = some j) : setO (.ref l) (.int i) v S = .ok () (S.put l (.lst (ds.set j v))) := by
  unfold setO
  simp only [hl, ho, hj, if_false, Bool.false_eq_true]
theorem item3 {S : Sto} {l : Nat} {a b c : D} (ho : S.objs[l]? = some (.lst [a, b, c])) : itemO (.ref l) (.int 0) S = .ok a S ∧ itemO (.ref l) (.int 1) S = .ok b S ∧ itemO (.ref l) (.int 2) S = .ok c S := by
  refine ⟨?_, ?_, ?_⟩ <;> (unfold itemO alt2 dctD; simp only [ho]; unfold ixO seqL tupD; simp only [ho]; rfl)
/-! ### loops -/
section
variable {E : Nat → Sto → Prop}
theorem wp_loop {g : D → En → M En} {b : En → M Fl} {Q : Fl → Sto → Prop} (I : List D → En → Sto → Prop) (step : ∀ d ds σ S, I (d :: ds) σ S → wp (g d σ) S (fun σ1 S1 => wp (b σ1) S1 (fun fl S2 => match fl with
    | .nx σ2 => I ds σ2 S2
    | .ct σ2 => I ds σ2 S2
    | .bk σ2 => Q (.nx σ2) S2
    | .rt d => Q (.rt d) S2) E) E) (done : ∀ σ S, I [] σ S → Q (.nx σ) S) : ∀ (ds : List D) (σ : En) (S : Sto), I ds σ S → wp (loopM g b ds σ) S Q E
  | [], σ, S, h => done σ S h
  | d :: ds, σ, S, h => by
    unfold loopM
    rw [wp_bind]
    refine wp_mono (step d ds σ S h) (fun σ1 S1 h1 => ?_) fun _ _ z => z
    rw [wp_bind]
    refine wp_mono h1 (fun fl S2 h2 => ?_) fun _ _ z => z
    cases fl with
    | nx σ2 => exact wp_loop I step done ds σ2 S2 h2
    | ct σ2 => exact wp_loop I step done ds σ2 S2 h2
    | bk σ2 => exact h2
    | rt d => exact h2
theorem wp_while {c : En → M Bool} {b : En → M Fl} {Q : Fl → Sto → Prop} (I : Nat → En → Sto → Prop) (step : ∀ m σ S, I m σ S → wp (c σ) S (fun k S1 => if k = true then wp (b σ) S1 (fun fl S2 => match fl with
    | .nx σ2 => ∃ m', m' < m ∧ I m' σ2 S2
    | .ct σ2 => ∃ m', m' < m ∧ I m' σ2 S2
    | .bk σ2 => Q (.nx σ2) S2
    | .rt d => Q (.rt d) S2) E else Q (.nx σ) S1) E) : ∀ (n m : Nat) (σ : En) (S : Sto), m < n → I m σ S → wp (whileM c b n σ) S Q E
  | 0, m, _, _, h, _ => absurd h (Nat.not_lt_zero _)
  | n + 1, m, σ, S, hm, h => by
    unfold whileM
    rw [wp_bind]
    refine wp_mono (step m σ S h) (fun k S1 h1 => ?_) fun _ _ z => z
    rw [wp_ite]
    by_cases hk : k = true
    · rw [if_pos hk] at h1 ⊢
      rw [wp_bind]
      refine wp_mono h1 (fun fl S2 h2 => ?_) fun _ _ z => z
      cases fl with
      | nx σ2 => obtain ⟨m', h3, h4⟩ := h2; exact wp_while I step n m' σ2 S2 (by omega) h4
      | ct σ2 => obtain ⟨m', h3, h4⟩ := h2; exact wp_while I step n m' σ2 S2 (by omega) h4
      | bk σ2 => exact h2
      | rt d => exact h2
    · rw [if_neg hk] at h1 ⊢
      exact h1
theorem wp_nox {α : Type} {m : M α} {S : Sto} {Q : α → Sto → Prop} (h : wp m S Q fun _ _ => False) : wp (nox m) S Q E := by
  unfold wp nox at *
  cases e : m S with
  | ok a S1 => rw [e] at h; exact h
  | exc c S1 => rw [e] at h; exact h.elim
  | stk => rw [e] at h; exact h.elim
theorem wp_genL {bod : D → M (Option D)} {chk : List D → D → Option (Option D)} {fin : List D → M D} {Q : D → Sto → Prop} (I : List D → List D → Sto → Prop) (step : ∀ ys d ds S, I ys (d :: ds) S → wp (bod d) S (fun o S' => match o with
    | none => I ys ds S'
    | some y => match chk ys y with
      | none => False
      | some (some r) => Q r S'
      | some none => I (ys ++ [y]) ds S') fun _ _ => False) (done : ∀ ys S, I ys [] S → wp (fin ys) S Q E) : ∀ (ds ys : List D) (S : Sto), I ys ds S → wp (genL bod chk fin ys ds) S Q E
  | [], ys, S, h => done ys S h
  | d :: ds, ys, S, h => by
    unfold genL
    rw [wp_bind]
    refine wp_nox (wp_mono (step ys d ds S h) (fun o S1 h1 => ?_) fun _ _ z => z)
    cases o with
    | none => exact wp_genL I step done ds ys S1 h1
    | some y =>
      simp only at h1 ⊢
      cases ec : chk ys y with
      | none => rw [ec] at h1; exact h1.elim
      | some r =>
        rw [ec] at h1
        cases r with
        | none => exact wp_genL I step done ds _ S1 h1
        | some r => exact h1
/-- a comprehension that changes nothing -/
theorem wp_genP {bod : D → M (Option D)} {fin : List D → M D} {Q : D → Sto → Prop} {S : Sto} (f : D → Option D) : ∀ (ds ys : List D), (∀ d ∈ ds, bod d S = .ok (f d) S) → ys.length + ds.length ≤ sizeLine → wp (fin (ys ++ ds.filterMap f)) S Q E → wp (genL bod chkAll fin ys ds) S Q E
  | [], ys, _, _, h => by
    rw [List.filterMap_nil, List.append_nil] at h
    exact h
  | d :: ds, ys, hb, hl, h => by
    unfold genL
    rw [wp_bind]
    have e := hb d List.mem_cons_self
    refine wp_nox (wp_of e ?_)
    rw [List.length_cons] at hl
    cases ef : f d with
    | none =>
      rw [List.filterMap_cons, ef] at h
      exact wp_genP f ds ys (fun x hx => hb x (List.mem_cons_of_mem _ hx)) (by omega) h
    | some y =>
      rw [List.filterMap_cons, ef] at h
      have hc : chkAll ys y = some none := if_pos (by omega)
      simp only [hc]
      refine wp_genP f ds (ys ++ [y]) (fun x hx => hb x (List.mem_cons_of_mem _ hx)) (by rw [List.length_append, List.length_singleton]; omega) ?_
      rw [List.append_assoc]
      exact h
end
end Fd

set_option Elab.async false
set_option linter.all false
set_option maxRecDepth 100000
set_option maxHeartbeats 1000000
namespace Fd
open PySem PySem.Spec PyProof.Rows L2
/-! ### enumerate of a list or a tuple -/
theorem meets_enumT (t : Addr) (items : Array Value) (c : Nat) (dct : Option Addr) (sl : Array (Option Value)) :
    Meets (Builtin.«enumerate.__new__» ⟨[.type "enumerate", .ref t], []⟩) (fun _ R s => s.heap.get? t = some { cls := .type "tuple", dict := dct, data := .seq items c, slots := sl } ∧
      R (.ok (.ret (.ref (s.heap.push { cls := .type "tuple_iterator", data := .fields #[.ref t, .int 0 0] }).objs.size)))
        { s with heap := (s.heap.push { cls := .type "tuple_iterator", data := .fields #[.ref t, .int 0 0] }).push { cls := .type "enumerate", data := .fields #[.none, .bool false, .ref s.heap.objs.size, rawInt 0, .none, .none] } }) :=
  .of_wp fun prog w A R s h => by
    obtain ⟨hp, g, d, tk, os⟩ := s
    obtain ⟨ht, h⟩ := h
    have hsub := sub_enumerate
    have hT : Heap.IsTuple (Shared.heap ⟨hp, g, d, tk, os⟩) t items := ⟨_, ht, rfl, c, rfl⟩
    wp_walk using AutoSeq1.wpAny_loadPart' ht
    refine wpAny_stack_any fun st => wpAny_pure ?_
    split
    · rename_i q _ _ _ _ _
      cases (q == Value.type "enumerate")
      · wp_walk using AutoSeq1.wpAny_loadPart' ht, wpAny_pyIter_tuple hT
        exact ⟨_, rfl, h⟩
      · wp_walk using AutoSeq1.wpAny_loadPart' ht, wpAny_pyIter_tuple hT
        exact ⟨_, rfl, h⟩
    · wp_walk using AutoSeq1.wpAny_loadPart' ht, wpAny_pyIter_tuple hT
      exact ⟨_, rfl, h⟩
section
variable {prog : Program} {w : World} {A : Around} {E : Value → Shared → Prop} {s : Shared}
theorem call_enumT {t : Addr} {items : Array Value} {Q : Value → Shared → Prop} (hT : s.heap.IsTuple t items)
    (h : ∀ h', IsEnum h' (s.heap.objs.size + 1) s.heap.objs.size 0 .none → h'.IsTupleIter s.heap.objs.size t 0 → h'.objs.size = s.heap.objs.size + 2 →
      (∀ b o, s.heap.get? b = some o → h'.get? b = some o) → Q (.ref (s.heap.objs.size + 1)) { s with heap := h' }) :
    wpAny (model prog w) A (call (.type "enumerate") [.ref t]) Q E s := by
  obtain ⟨⟨c, dct, dt, sl⟩, ht, hc, n, hd⟩ := hT
  have hc : c = .type "tuple" := hc
  have hd : dt = .seq items n := hd
  subst hc hd
  refine callType_new F.called_enumerate (by decide) (F.typeCall_enumerate_1 _) (F.newCall_enumerate_1 _) (fun obj => F.args_object_init_2 obj _) F.entry_enumerate_new (meets_enumT t items n dct sl) ⟨ht, ?_⟩
  have hz : (s.heap.push { cls := .type "tuple_iterator", data := .fields #[.ref t, .int 0 0] }).objs.size = s.heap.objs.size + 1 := Heap.size_push ..
  show _ ∧ _
  rw [hz]
  have he : IsEnum ((s.heap.push { cls := .type "tuple_iterator", data := .fields #[.ref t, .int 0 0] }).push { cls := .type "enumerate", data := .fields #[.none, .bool false, .ref s.heap.objs.size, rawInt 0, .none, .none] }) (s.heap.objs.size + 1) s.heap.objs.size 0 .none := by
    have z := Heap.get?_push_size (s.heap.push { cls := .type "tuple_iterator", data := .fields #[.ref t, .int 0 0] }) (o := { cls := .type "enumerate", data := .fields #[.none, .bool false, .ref s.heap.objs.size, rawInt 0, .none, .none] }) rfl
    rw [hz] at z
    exact z
  exact ⟨⟨_, he, rfl⟩, h _ he ⟨_, Heap.get?_push_of_some _ (Heap.get?_push_size _ rfl), rfl, rfl⟩ (by rw [Heap.size_push, hz]) fun b o x => Heap.get?_push_of_some _ (Heap.get?_push_of_some _ x)⟩
end
/-- the tuple at a, each item in a new pair -/
def IteT (K : PySem.W.Frag) (a : Addr) : It :=
  ⟨fun i H => ∃ (xs : List V) (x : V), SqT K H a xs ∧ xs[i]? = some x, fun i H v H' => ∃ T x, v = .ref T ∧ H T = none ∧ H' = upd H T (.tup [.int (i : Nat), x]) ∧ ∀ xs, SqT K H a xs → xs[i]? = some x, fun i H => ∃ xs : List V, SqT K H a xs ∧ xs.length ≤ i⟩
theorem turn_enumT {P : Program} {w : World} {K : PySem.W.Frag} {elts : List Expr} {kk : Nat} {tpos : Pos} (a e it : Addr) (hai : a ≠ it) (hae : a ≠ e) :
    Turn P w K (.Tuple elts kk tpos) (IteT K a) [e, it] e (fun i h => (∃ old, IsEnum h e it ((i : Nat) : Int) old) ∧ h.IsTupleIter it a i ∧ e ≠ it) where
  mem := by simp
  obj := fun i h st b hb => by
    obtain ⟨⟨old, he⟩, ⟨o, ho, hc, hd⟩, _⟩ := st
    have z : b = e ∨ b = it := by simpa using hb
    rcases z with z | z
    · rw [z]; exact ⟨_, he, fun v q => nomatch q⟩
    · rw [z]; exact ⟨o, ho, fun v q => by rw [hd] at q; cases q⟩
  keep := fun i h h' st k => by
    obtain ⟨⟨old, he⟩, hi, hne⟩ := st
    exact ⟨⟨old, k e (by simp) _ he⟩, hi.at fun o q => k it (by simp) o q, hne⟩
  item := by
    intro X hP hw hK hc i pins s σ H E I hf st hg
    subst hP hw hK
    obtain ⟨⟨old, he⟩, hit, hne⟩ := st
    obtain ⟨xs, x, hq, hx⟩ := hg
    obtain ⟨its, rv, p, hz⟩ := I.tuple hq
    obtain ⟨u, hu, ru⟩ := rv.get hx
    have hel : e < s.heap.objs.size := Heap.lt_size he
    have hil : it < s.heap.objs.size := by
      obtain ⟨_, q, _⟩ := hit
      exact Heap.lt_size q
    have hD := Draws.tuple (prog := X.prog) (w := X.w) (A := X.A.in1) (I.ok.hd hc) it a hai its.toArray
    have hlt : i < its.toArray.size := by
      have := (List.getElem?_eq_some_iff.mp hu).1
      simpa using this
    refine wpAny_pyNext_enum_itemD hD he ⟨hit, p⟩ hlt hne (by simp [hne, Ne.symm hae]) fun y h' tk hy ho st' hT hsz hk => ?_
    have ey : y = u := by
      have hy : its.toArray[i]? = some y := hy
      have hu : its.toArray[i]? = some u := by simpa using hu
      rw [hu] at hy
      exact (Option.some.inj hy).symm
    subst ey
    obtain ⟨hit', _⟩ := st'
    refine ⟨_, rfl, wpAny_letOwnedTupleGo_enum (s := { s with heap := h', toks := tk + 1 }) ho fun h'' he' sb => ?_⟩
    have hT2 : h''.get? s.heap.objs.size = some { cls := .type "tuple", data := .seq #[.int i tk, y] } := (sb.2 _ (Nat.ne_of_gt hel)).trans hT
    have new : ObjOk X.prog X.w (upd H s.heap.objs.size (.tup [.int (i : Nat), x])) h'' s.heap.objs.size (.tup [.int (i : Nat), x]) :=
      ⟨by show 2 ≤ sizeLine; decide, [.int i tk, y], .cons ⟨_, rfl⟩ (.cons ru .nil), ⟨_, hT2, rfl, _, rfl⟩⟩
    have I1 : Inv X pins σ (upd H s.heap.objs.size (.tup [.int (i : Nat), x])) { s with heap := h'', toks := tk + 1 } :=
      I.turnedNew (ch := [e, it]) (fun b ob hb q => (sb.2 b (fun z => hb (by simp [z]))).trans (hk b ob (fun z => hb (by simp [z])) (fun z => hb (by simp [z])) q)) hf (Nat.le_refl _) new
    refine ⟨.ref s.heap.objs.size, _, I1, rfl, ⟨_, x, rfl, I.hok.fresh (Nat.le_refl _), rfl, fun ys hy => by rw [I.tuple_inj hy hq]; exact hx⟩, ⟨⟨y, ?_⟩, hit'.at fun o q => (sb.2 it (Ne.symm hne)).trans q, hne⟩, fun b hb => ?_⟩
    · have e1 : ((i + 1 : Nat) : Int) = (i : Int) + 1 := by omega
      rw [e1]
      exact he'
    · have hb' : b < s.heap.objs.size := by
        have z : b = e ∨ b = it := by simpa using hb
        rcases z with z | z
        · rw [z]; exact hel
        · rw [z]; exact hil
      rw [upd_ne (Nat.ne_of_lt hb')]
      exact (hf b hb).1
  done := by
    intro X hP hw hK hc i pins s σ H E I hf st hg
    subst hP hw hK
    obtain ⟨⟨old, he⟩, hit, hne⟩ := st
    obtain ⟨xs, hq, hx⟩ := hg
    obtain ⟨its, rv, p, hz⟩ := I.tuple hq
    obtain ⟨f0, f1, f2, f3, f4, f5⟩ := hf it (by simp)
    have hl := rv.length
    have hD := Draws.tuple (prog := X.prog) (w := X.w) (A := X.A.in1) (I.ok.hd hc) it a hai its.toArray
    have hT : s.TypeIs (.ref e) "enumerate" := ⟨_, he, rfl⟩
    unfold pyNext
    refine wpAny_bind (wpAny_attempt (wpAny_callSpecial?_slot (name := Str.ofString "__next__") hT F.slot_enumerate_next (wpAny_call_entry F.slot_enumerate_next hT F.entry_enumerate_next ?_ (F.args_enumerate_next_1 _))))
    show wpAny _ _ (field (.ref e) 2 >>= _) _ _ _
    refine wpAny_bind (wpAny_field he rfl (x := .ref it) rfl ?_)
    refine wpAny_bind (wpAny_nextOf_tuple_end (I.ok.hd hc) hit p (by simp; omega) fun h' x he' hx' => ?_)
    obtain ⟨o, ho, hc2⟩ := hx'
    refine wpAny_bind (wpAny_isInstance (T := "StopIteration") (b := true) ⟨o, ho, hc2⟩ isSubtype_stop ?_)
    exact wpAny_pure ⟨rfl, I.turned (t' := s.toks) (fun b o hb q => he' b o hb q) f0 f1 f3 f4 f5⟩
  self := fun A i s Q E st h => by
    obtain ⟨⟨_, he⟩, _⟩ := st
    exact wpAny_pyIter_enum he h
def iEnumA (K : PySem.W.Frag) (ta : TA) : TI := fun σ H R => ta σ H fun vs H1 => ∃ a xs, vs = [.ref a] ∧ ((SqL K H1 a xs ∧ R (Ite K a) H1) ∨ (SqT K H1 a xs ∧ R (IteT K a) H1))
theorem pi_enumA {X : Cx} {e : Expr} {ta : TA} {p pos tpos : Pos} {elts : List Expr} {kk : Nat} (hg : Gl X "enumerate") (hm : X.mg "enumerate" = none) (ha : PA X [e] ta) (hs : starEach [e] X.env = [(false, eval e X.env)] := by rfl) :
    PI X (.Tuple elts kk tpos) (.Call (.Name "enumerate" p) [e] [] pos) (iEnumA X.K ta) := by
  refine ⟨fun pins s σ H R I h => ?_⟩
  refine Call_ (ld_blt I hg hm boot_enumerate (PyProof.Rows.callWith_type1 (thn (ha.run pos pins s σ H _ I h) fun us s1 ⟨vs, H1, I1, r1, q1⟩ => ?_) hs rfl))
  obtain ⟨a, xs, ex, q1⟩ := q1
  subst ex
  cases r1 with
  | cons r rr =>
    cases rr
    cases r
    have fp : ∀ b ∈ [s1.heap.objs.size + 1, s1.heap.objs.size], FpOk X pins H1 b := fun b hb => by
      have z : b = s1.heap.objs.size + 1 ∨ b = s1.heap.objs.size := by simpa using hb
      have hle : s1.heap.objs.size ≤ b := by
        rcases z with z | z
        · rw [z]; exact Nat.le_add_right _ _
        · rw [z]; exact Nat.le_refl _
      exact I1.fpOk hle (I1.hok.fresh hle)
    rcases q1 with ⟨hq, q⟩ | ⟨hq, q⟩
    · obtain ⟨its, rv, p', hz⟩ := I1.list hq
      refine call_enumerate_list p'.isList fun h' he hit hsz hk => wpAny_pyIter_enum he ?_
      have I2 : Inv X pins σ H1 { s1 with heap := h' } := I1.kept (t' := s1.toks) hk
      exact ⟨s1.heap.objs.size + 1, [s1.heap.objs.size + 1, s1.heap.objs.size], _, _, H1, rfl, I2, turn_enum a (s1.heap.objs.size + 1) s1.heap.objs.size, ⟨⟨.none, he⟩, hit, Nat.succ_ne_self _⟩, fp, q⟩
    · obtain ⟨its, rv, p', hz⟩ := I1.tuple hq
      obtain ⟨o1, ho1, _⟩ := id p'
      have hla : a < s1.heap.objs.size := Heap.lt_size ho1
      refine call_enumT (show s1.heap.IsTuple a its.toArray from p') fun h' he hit hsz hk => wpAny_pyIter_enum he ?_
      have I2 : Inv X pins σ H1 { s1 with heap := h' } := I1.kept (t' := s1.toks) hk
      exact ⟨s1.heap.objs.size + 1, [s1.heap.objs.size + 1, s1.heap.objs.size], _, _, H1, rfl, I2, turn_enumT a (s1.heap.objs.size + 1) s1.heap.objs.size (Nat.ne_of_lt hla) (Nat.ne_of_lt (Nat.lt_succ_of_lt hla)), ⟨⟨.none, he⟩, hit, Nat.succ_ne_self _⟩, fp, q⟩
/-! ### things in order, at hand -/
def seqW (S : Sto) : D → Option (Bool × List D)
  | .tup ds => some (true, ds)
  | .kt ds => some (true, ds)
  | .ft ds => some (true, ds)
  | .lst ds => some (false, ds)
  | .ref l => if S.locked l = true then (match S.objs[l]? with
    | some (.lst ds) => some (false, ds)
    | _ => none) else none
  | _ => none
def SqB (K : PySem.W.Frag) (b : Bool) (H : Hp) (a : Addr) (xs : List V) : Prop := match b with
  | true => SqT K H a xs
  | false => SqL K H a xs
section
variable {G : Gx} {μ : Nat → Addr} {S : Sto} {H : Hp} {K : PySem.W.Frag}
theorem seqW_ok (L : Lnk G μ S H) (hK : G.K = K) {d : D} {v : V} {b : Bool} {ds : List D} (r : RV G μ S.n H d v) (e : seqW S d = some (b, ds)) : ∃ a vs, v = .ref a ∧ RVs G μ S.n H ds vs ∧ ∀ μ' S' H', Stp G μ S H μ' S' H' → SqB K b H' a vs := by
  have list : ∀ a vs, ((H a = some (.lst vs) ∧ NotOwn μ S.n a) ∨ ∃ od, H a = some (.frz od (.lst vs))) → ∀ μ' S' H', Stp G μ S H μ' S' H' → SqB K false H' a vs := fun a vs h μ' S' H' s => by
    rcases h with ⟨h, no⟩ | ⟨od, h⟩
    · exact .of (s.grow.ext.keep a _ h no (fun _ e => by cases e))
    · exact .inl (.inr ⟨od, s.grow.ext.frz _ _ _ h⟩)
  have tup : ∀ a vs, (H a = some (.tup vs) ∨ KTup K a vs) → ∀ μ' S' H', Stp G μ S H μ' S' H' → SqB K true H' a vs := fun a vs h μ' S' H' s => by
    rcases h with h | h
    · exact .of (tup_keep s.grow.ext L.tf h)
    · exact .inr h
  cases d with
  | tup xs =>
    cases e
    obtain ⟨a, vs, rfl, h1, h2⟩ := r
    exact ⟨a, vs, rfl, h2, tup a vs (.inl h1)⟩
  | kt xs =>
    cases e
    obtain ⟨a, vs, rfl, h1, h2⟩ := r
    rw [hK] at h1
    exact ⟨a, vs, rfl, h2, tup a vs (.inr h1)⟩
  | ft xs =>
    cases e
    obtain ⟨a, vs, od, rfl, _, h1, _, h2⟩ := r
    exact ⟨a, vs, rfl, h2, fun μ' S' H' s => .inl (.inr ⟨od, s.grow.ext.frz _ _ _ h1⟩)⟩
  | lst xs =>
    cases e
    obtain ⟨a, vs, rfl, no, h1, h2⟩ := r
    exact ⟨a, vs, rfl, h2, list a vs (.inl ⟨h1, no⟩)⟩
  | ref l =>
    unfold seqW at e
    by_cases hl : S.locked l = true
    · simp only [hl, if_true] at e
      cases eo : S.objs[l]? with
      | none => simp only [eo] at e; cases e
      | some o =>
        cases o with
        | lst xs =>
          simp only [eo] at e
          cases e
          obtain ⟨_, rfl⟩ := r
          obtain ⟨vs, q1, q2⟩ := L.ob l _ eo
          rw [hl] at q1
          obtain ⟨od, q1⟩ := (show ∃ od, H (μ l) = some (.frz od (.lst vs)) from q1)
          exact ⟨μ l, vs, rfl, q2, list _ vs (.inr ⟨od, q1⟩)⟩
        | dct _ _ => simp only [eo] at e; cases e
        | ins _ _ => simp only [eo] at e; cases e
    · simp only [hl, if_false] at e
      cases e
  | _ => cases e
def enumD : Nat → List D → List D
  | _, [] => []
  | i, d :: ds => .tup [.int (i : Int), d] :: enumD (i + 1) ds
theorem enumD_len : ∀ (ds : List D) (i : Nat), (enumD i ds).length = ds.length
  | [], _ => rfl
  | d :: ds, i => by
    show (enumD (i + 1) ds).length + 1 = ds.length + 1
    rw [enumD_len ds]
theorem enumD_get : ∀ (ds : List D) (i j : Nat), (enumD i ds)[j]? = ds[j]?.map fun d => D.tup [.int ((i + j : Nat) : Int), d]
  | [], _, _ => rfl
  | d :: ds, i, 0 => rfl
  | d :: ds, i, j + 1 => by
    show (enumD (i + 1) ds)[j]? = _
    rw [enumD_get ds (i + 1) j, List.getElem?_cons_succ]
    have : i + 1 + j = i + (j + 1) := by omega
    rw [this]
def enumC : D → M (List D) := fun d S => match seqW S d with
  | some (_, ds) => .ok (enumD 0 ds) S
  | none => .stk
def enumS (fe : En → M D) : En → M (List D) := fun σ => fe σ >>= enumC
/-- a new pair -/
theorem pair_ok (L : Lnk G μ S H) {T : Addr} (hT : H T = none) {ds : List D} {xs : List V} (r : RVs G μ S.n H ds xs) : Stp G μ S H μ S (upd H T (.tup xs)) ∧ RV G μ S.n (upd H T (.tup xs)) (.tup ds) (.ref T) := by
  have st : Stp G μ S H μ S (upd H T (.tup xs)) := Stp.new L hT
  exact ⟨st, T, xs, rfl, upd_same, st.rvs L r⟩
def IteB (K : PySem.W.Frag) (b : Bool) (a : Addr) : It := match b with
  | true => IteT K a
  | false => Ite K a
theorem itok_enum (L : Lnk G μ S H) {b : Bool} {a : Addr} {ds : List D} {vs : List V} (r : RVs G μ S.n H ds vs) (h : ∀ μ' S' H', Stp G μ S H μ' S' H' → SqB K b H' a vs) : ItOk G (IteB K b a) μ S H (enumD 0 ds) := fun μ' S' H' s => by
  have hs := h μ' S' H' s
  have rs := s.rvs L r
  have val : ∀ (i : Nat) (d : D), (enumD 0 ds)[i]? = some d → ∃ (d0 : D) (v : V), d = .tup [.int (i : Int), d0] ∧ vs[i]? = some v ∧ RV G μ' S'.n H' d0 v := fun i d e => by
    rw [enumD_get] at e
    cases e1 : ds[i]? with
    | none => rw [e1] at e; cases e
    | some d0 =>
      rw [e1] at e
      obtain ⟨v, hv, rv⟩ := rvs_get rs e1
      have e : D.tup [.int ((0 + i : Nat) : Int), d0] = d := Option.some.inj e
      rw [Nat.zero_add] at e
      exact ⟨d0, v, e.symm, hv, rv⟩
  have yld : ∀ i d, (enumD 0 ds)[i]? = some d → ∀ x T, (vs[i]? = some x) → H' T = none → Stp G μ' S' H' μ' S' (upd H' T (.tup [.int (i : Nat), x])) ∧ RV G μ' S'.n (upd H' T (.tup [.int (i : Nat), x])) d (.ref T) := fun i d e x T hx hT => by
    obtain ⟨d0, v, rfl, hv, rv⟩ := val i d e
    rw [hx] at hv
    cases hv
    exact pair_ok s.lnk hT (show RVs G μ' S'.n H' [.int (i : Int), d0] [.int (i : Nat), x] from ⟨.int (i : Nat), [x], rfl, rfl, x, [], rfl, rv, rfl⟩)
  have hlen := enumD_len ds 0
  cases b with
  | true =>
    have hs : SqT K H' a vs := hs
    refine ⟨fun i hi => ?_, ⟨vs, hs, by rw [hlen, r.length]; exact Nat.le_refl _⟩, fun i d e x H'' ⟨T, y, e1, e2, e3, e4⟩ => ?_⟩
    · rw [hlen] at hi
      obtain ⟨v, hv, _⟩ := rvs_get r (List.getElem?_eq_getElem hi)
      exact ⟨vs, v, hs, hv⟩
    · subst e1 e3
      exact yld i d e y T (e4 vs hs) e2
  | false =>
    have hs : SqL K H' a vs := hs
    refine ⟨fun i hi => ?_, ⟨vs, hs, by rw [hlen, r.length]; exact Nat.le_refl _⟩, fun i d e x H'' ⟨T, y, e1, e2, e3, e4⟩ => ?_⟩
    · rw [hlen] at hi
      obtain ⟨v, hv, _⟩ := rvs_get r (List.getElem?_eq_getElem hi)
      exact ⟨vs, v, hs, hv⟩
    · subst e1 e3
      exact yld i d e y T (e4 vs hs) e2
end
section
variable {X : Cx} {G : Gx} {W : XK} {e : Expr} {fe : En → M D} {elts : List Expr} {kk : Nat} {p pos tpos : Pos}
theorem si_enum (hK : G.K = X.K) (hm : X.mg "enumerate" = none) (he : SE X G W e fe) (hg : Gl X "enumerate" := by rfl) (hs : starEach [e] X.env = [(false, eval e X.env)] := by rfl) (hs1 : starEach [e] X.env = (false, eval e X.env) :: starEach [] X.env := by rfl) :
    SI X G W (.Tuple elts kk tpos) (.Call (.Name "enumerate" p) [e] [] pos) (enumS fe) :=
  pi_imp (pi_enumA hg hm (sa_cons he sa_nil hs1) hs) fun σ H R ⟨σd, S, μ, a0, h⟩ => by
    have h := Post.bind (k := enumC) h
    refine ⟨σd, S, μ, a0, ?_⟩
    have e0 : consA fe nilA σd S = (match fe σd S with | .ok d S1 => .ok [d] S1 | .exc c S1 => .exc c S1 | .stk => .stk) := by
      show M.bind (fe σd) (fun x => M.bind (nilA σd) fun xs => M.pure (x :: xs)) S = _
      unfold M.bind
      cases fe σd S <;> rfl
    rw [e0]
    cases e1 : fe σd S with
    | stk => rw [e1] at h; exact h.elim
    | exc c S1 => rw [e1] at h; exact h
    | ok d S1 =>
      rw [e1] at h
      intro μ1 H1 s1 vs rs
      obtain ⟨v, rfl, rv⟩ := rvs1 rs
      have q := h μ1 H1 s1
      unfold enumC at q
      dsimp only at q
      cases e2 : seqW S1 d with
      | none => rw [e2] at q; exact q.elim
      | some z =>
        obtain ⟨b, ds⟩ := z
        rw [e2] at q
        obtain ⟨a, us, rfl, r2, hs⟩ := seqW_ok s1.lnk hK rv e2
        have hq := hs _ _ _ (.refl s1.lnk)
        have ok := itok_enum (K := X.K) s1.lnk r2 hs
        have q : Post G μ1 S1 H1 W (fun ds S' μ' H' => ∀ J, ItOk G J μ' S' H' ds → R J H') (.ok (enumD 0 ds) S1) := q
        refine ⟨a, us, rfl, ?_⟩
        cases b with
        | true => exact .inr ⟨hq, (Post.here (W := W) s1.lnk q) _ ok⟩
        | false => exact .inl ⟨hq, (Post.here (W := W) s1.lnk q) _ ok⟩
end
end Fd

set_option Elab.async false
set_option linter.all false
set_option maxRecDepth 100000
set_option maxHeartbeats 1000000
namespace Fd
open PySem PySem.Spec PyProof.Rows L2
/-! ### zip of two lists or of two tuples -/
def ItzB (K : PySem.W.Frag) (b : Bool) (a c : Addr) : It := match b with
  | true => RZ.ItzT K a c
  | false => Itz K a c
def zipD : List D → List D → List D
  | d :: ds, e :: es => .tup [d, e] :: zipD ds es
  | _, _ => []
theorem zipD_len : ∀ ds es : List D, (zipD ds es).length = min ds.length es.length
  | [], _ => by show 0 = _; simp
  | d :: ds, [] => by show 0 = _; simp
  | d :: ds, e :: es => by
    show (zipD ds es).length + 1 = min (ds.length + 1) (es.length + 1)
    rw [zipD_len ds es]
    omega
theorem zipD_get : ∀ (ds es : List D) (j : Nat) (z : D), (zipD ds es)[j]? = some z → ∃ d e, ds[j]? = some d ∧ es[j]? = some e ∧ z = .tup [d, e]
  | [], _, j, z, h => by cases (show ([] : List D)[j]? = some z from h)
  | d :: ds, [], j, z, h => by cases (show ([] : List D)[j]? = some z from h)
  | d :: ds, e :: es, 0, z, h => by
    have h : some (D.tup [d, e]) = some z := h
    cases h
    exact ⟨d, e, rfl, rfl, rfl⟩
  | d :: ds, e :: es, j + 1, z, h => zipD_get ds es j z h
def zipC : D → D → M (List D) := fun d e S => match seqW S d, seqW S e with
  | some (b, ds), some (c, es) => if b = c then .ok (zipD ds es) S else .stk
  | _, _ => .stk
def zipS (fd fe : En → M D) : En → M (List D) := fun σ => fd σ >>= fun d => fe σ >>= fun e => zipC d e
section
variable {G : Gx} {μ : Nat → Addr} {S : Sto} {H : Hp} {K : PySem.W.Frag}
theorem itok_zip (L : Lnk G μ S H) {b : Bool} {a c : Addr} {ds es : List D} {vs us : List V} (r : RVs G μ S.n H ds vs) (r2 : RVs G μ S.n H es us) (h : ∀ μ' S' H', Stp G μ S H μ' S' H' → SqB K b H' a vs) (h2 : ∀ μ' S' H', Stp G μ S H μ' S' H' → SqB K b H' c us) : ItOk G (ItzB K b a c) μ S H (zipD ds es) := fun μ' S' H' s => by
  have hs := h μ' S' H' s
  have hs2 := h2 μ' S' H' s
  have rs := s.rvs L r
  have rs2 := s.rvs L r2
  have yld : ∀ (i : Nat) (z : D), (zipD ds es)[i]? = some z → ∀ (x y : V) (T : Addr), vs[i]? = some x → us[i]? = some y → H' T = none → Stp G μ' S' H' μ' S' (upd H' T (.tup [x, y])) ∧ RV G μ' S'.n (upd H' T (.tup [x, y])) z (.ref T) := fun i z e x y T hx hy hT => by
    obtain ⟨d, f, e1, e2, rfl⟩ := zipD_get ds es i z e
    obtain ⟨v, hv, rv⟩ := rvs_get rs e1
    obtain ⟨w, hw, rw'⟩ := rvs_get rs2 e2
    rw [hx] at hv
    rw [hy] at hw
    cases hv
    cases hw
    exact pair_ok s.lnk hT (show RVs G μ' S'.n H' [d, f] [x, y] from ⟨x, [y], rfl, rv, y, [], rfl, rw', rfl⟩)
  have hlen := zipD_len ds es
  have both : ∀ i, i < (zipD ds es).length → ∃ x y, vs[i]? = some x ∧ us[i]? = some y := fun i hi => by
    rw [hlen] at hi
    obtain ⟨v, hv, _⟩ := rvs_get r (List.getElem?_eq_getElem (show i < ds.length by omega))
    obtain ⟨w, hw, _⟩ := rvs_get r2 (List.getElem?_eq_getElem (show i < es.length by omega))
    exact ⟨v, w, hv, hw⟩
  have stop : vs.length ≤ (zipD ds es).length ∨ us.length ≤ (zipD ds es).length := by
    rw [hlen, ← r.length, ← r2.length]
    omega
  cases b with
  | true =>
    have hs : SqT K H' a vs := hs
    have hs2 : SqT K H' c us := hs2
    refine ⟨fun i hi => ?_, ⟨vs, us, hs, hs2, stop⟩, fun i z e x H'' ⟨T, x1, y1, e1, e2, e3, e4, e5⟩ => ?_⟩
    · obtain ⟨x, y, hx, hy⟩ := both i hi
      exact ⟨vs, us, x, y, hs, hs2, hx, hy⟩
    · subst e1 e3
      exact yld i z e x1 y1 T (e4 vs hs) (e5 us hs2) e2
  | false =>
    have hs : SqL K H' a vs := hs
    have hs2 : SqL K H' c us := hs2
    refine ⟨fun i hi => ?_, ⟨vs, us, hs, hs2, stop⟩, fun i z e x H'' ⟨T, x1, y1, e1, e2, e3, e4, e5⟩ => ?_⟩
    · obtain ⟨x, y, hx, hy⟩ := both i hi
      exact ⟨vs, us, x, y, hs, hs2, hx, hy⟩
    · subst e1 e3
      exact yld i z e x1 y1 T (e4 vs hs) (e5 us hs2) e2
end
section
variable {X : Cx} {G : Gx} {W : XK} {e f : Expr} {fd fe : En → M D} {elts : List Expr} {kk : Nat} {p pos tpos : Pos}
theorem si_zip (hK : G.K = X.K) (hm : X.mg "zip" = none) (ha : SA X G W [e, f] (consA fd (consA fe nilA))) (hg : Gl X "zip" := by rfl) (hs : starEach [e, f] X.env = (false, eval e X.env) :: starEach [f] X.env := by rfl) (hpl : (backTo pos (starEach [f] X.env)).any (·.1) = false := by rfl) :
    SI X G W (.Tuple elts kk tpos) (.Call (.Name "zip" p) [e, f] [] pos) (zipS fd fe) :=
  pi_imp (RZ.pi_zipA hg hm ha hs hpl) fun σ H R ⟨σd, S, μ, a0, h⟩ => by
    have e0 : zipS fd fe = fun σ => consA fd (consA fe nilA) σ >>= fun ds => match ds with
      | [d, e] => zipC d e
      | _ => M.stk := by
      funext σ S
      show M.bind (fd σ) (fun d => M.bind (fe σ) fun e => zipC d e) S = M.bind (M.bind (fd σ) fun x => M.bind (M.bind (fe σ) fun y => M.bind (M.pure []) fun xs => M.pure (y :: xs)) fun xs => M.pure (x :: xs)) _ S
      unfold M.bind
      cases fd σ S with
      | ok d S1 =>
        dsimp only
        cases fe σ S1 <;> rfl
      | exc _ _ => rfl
      | stk => rfl
    rw [e0] at h
    refine rdA_bind (k := fun _ ds => match ds with
      | [d, e] => zipC d e
      | _ => M.stk) a0 h fun ds S1 μ1 H1 vs s1 a1 r q => ?_
    match ds, r, q with
    | [d, e], r, q =>
      obtain ⟨v, w, rfl, rv, rw'⟩ := rvs2 r
      have q : Post G μ1 S1 H1 W (fun ds S' μ' H' => ∀ J, ItOk G J μ' S' H' ds → R J H') (zipC d e S1) := q
      unfold zipC at q
      cases e1 : seqW S1 d with
      | none => rw [e1] at q; exact q.elim
      | some z =>
        obtain ⟨b, ds⟩ := z
        cases e2 : seqW S1 e with
        | none => rw [e1, e2] at q; exact q.elim
        | some z =>
          obtain ⟨c, es⟩ := z
          rw [e1, e2] at q
          dsimp only at q
          by_cases hbc : b = c
          · rw [if_pos hbc] at q
            subst hbc
            obtain ⟨a, us, rfl, r1, h1⟩ := seqW_ok a1.lnk hK rv e1
            obtain ⟨a', us', rfl, r2, h2⟩ := seqW_ok a1.lnk hK rw' e2
            have ok := itok_zip (K := X.K) a1.lnk r1 r2 h1 h2
            have q1 := h1 _ _ _ (.refl a1.lnk)
            have q2 := h2 _ _ _ (.refl a1.lnk)
            have q := (Post.here (W := W) a1.lnk q) _ ok
            refine ⟨a, a', us, us', rfl, ?_⟩
            cases b with
            | true => exact .inr ⟨q1, q2, q⟩
            | false => exact .inl ⟨q1, q2, q⟩
          · rw [if_neg hbc] at q; exact q.elim
    | [], _, q => exact q.elim
    | [_], _, q => exact q.elim
    | _ :: _ :: _ :: _, _, q => exact q.elim
/-! ### t.index(x) of texts -/
def strD : D → Option Str
  | .str z => some z
  | _ => none
def tindM : D → List D → M D := fun x ds S => match x with
  | .tup ys => (match ds with
    | [d] => (match strD d with
      | some z => (match ys.mapM strD with
        | some ss => (match ss.findIdx? fun s => decide (s = z) with
          | some j => .ok (.int (j : Nat)) S
          | none => .stk)
        | none => .stk)
      | none => .stk)
    | _ => .stk)
  | _ => .stk
theorem strDs_ok {μ : Nat → Addr} {n : Nat} {H : Hp} : ∀ {ds : List D} {vs : List V} {ss : List Str}, RVs G μ n H ds vs → ds.mapM strD = some ss → vs = ss.map V.str
  | [], vs, ss, r, e => by
    have r : vs = [] := r
    subst r
    rw [List.mapM_nil] at e
    cases e
    rfl
  | d :: ds, _, ss, ⟨v, r', ev, h1, h2⟩, e => by
    subst ev
    rw [List.mapM_cons] at e
    cases e1 : strD d with
    | none => rw [e1] at e; cases e
    | some s =>
      cases e2 : ds.mapM strD with
      | none => rw [e1, e2] at e; cases e
      | some ss' =>
        rw [e1, e2] at e
        have e : some (s :: ss') = some ss := e
        cases e
        cases d with
        | str z =>
          have e1 : some z = some s := e1
          cases e1
          rw [show v = .str s from h1, strDs_ok h2 e2]
          rfl
        | _ => cases e1
theorem strD_ok {μ : Nat → Addr} {n : Nat} {H : Hp} {d : D} {v : V} {z : Str} (r : RV G μ n H d v) (e : strD d = some z) : v = .str z := by
  cases d with
  | str s =>
    have e : some s = some z := e
    cases e
    exact r
  | _ => cases e
theorem mt_tind : MtD X G W "tuple.index" tindM := mtR_imp mt_tup_index fun x xs H Q ⟨d, ds, S, μ, L, r, rs, p⟩ => by
  unfold tindM at p
  cases d with
  | tup ys =>
    match ds, rs, p with
    | [d], rs, p =>
      obtain ⟨w, rfl, rw'⟩ := rvs1 rs
      dsimp only at p
      cases e0 : strD d with
      | none => rw [e0] at p; exact p.elim
      | some z =>
      rw [e0] at p
      dsimp only at p
      cases e1 : ys.mapM strD with
      | none => rw [e1] at p; exact p.elim
      | some ss =>
        rw [e1] at p
        dsimp only at p
        cases e2 : ss.findIdx? fun s => decide (s = z) with
        | none => rw [e2] at p; exact p.elim
        | some j =>
          rw [e2] at p
          obtain ⟨a, vs, rfl, h1, h2⟩ := r
          rw [strDs_ok h2 e1] at h1
          obtain ⟨hj, hy, hno⟩ := List.findIdx?_eq_some_iff_getElem.mp e2
          have hy := of_decide_eq_true hy
          refine ⟨a, ss, z, j, rfl, by rw [strD_ok rw' e0], .of h1, by rw [List.getElem?_eq_getElem hj, hy], fun m hm e => ?_, (Post.here (W := W) L p) _ rfl⟩
          have hm2 : m < ss.length := Nat.lt_trans hm hj
          rw [List.getElem?_eq_getElem hm2] at e
          have := hno m hm
          rw [decide_eq_true (Option.some.inj e)] at this
          exact absurd this (by decide)
    | [], _, p => exact p.elim
    | _ :: _ :: _, _, p => exact p.elim
  | _ => exact p.elim
/-! ### a tuple compared with the empty one -/
def eqT0 : D → D → M D := fun x y S => match tupD x, y with
  | some ds, .tup [] => .ok (.bl ds.isEmpty) S
  | _, _ => .stk
theorem od_eqT0 (hK : G.K = X.K) (hu : X.A.units + 64 < cLine) : OpD X G W (compareOp .Eq) eqT0 := fun pins s σ H x y v u Q I rx ry ⟨d, e, S, μ, L, r1, r2, p⟩ => by
  unfold eqT0 at p
  cases e1 : tupD d with
  | none => rw [e1] at p; exact p.elim
  | some ds =>
    rw [e1] at p
    cases e with
    | tup es =>
      cases es with
      | cons _ _ => exact p.elim
      | nil =>
        obtain ⟨a, vs, rfl, hs, rs⟩ := tupD_ok r1 e1
        obtain ⟨b, us, rfl, h2, rs2⟩ := r2
        have rs2 : us = [] := rs2
        subst rs2
        rw [hK] at hs
        cases rx
        cases ry
        obtain ⟨its, rv, pl, _⟩ := I.tuple hs
        obtain ⟨its2, rv2, pl2, _⟩ := I.tuple (SqT.of (K := X.K) h2)
        have e2 : its2 = [] := by cases rv2; rfl
        subst e2
        refine SeqAt.eq_tupleAt (e := fun _ => true) (show s.heap.IsTuple a its.toArray from pl) (show s.heap.IsTuple b ([] : List Value).toArray from pl2) (by omega) (fun j h1 h2 => absurd h2 (by simp)) ?_
        have hv : (Value.bool ((List.range (min its.toArray.size ([] : List Value).toArray.size)).all (fun _ => true) && its.toArray.size == ([] : List Value).toArray.size)) = .bool ds.isEmpty := by
          have hl : its.length = ds.length := by rw [← rv.length, rs.length]
          congr 1
          cases ds with
          | nil =>
            have : its = [] := List.eq_nil_of_length_eq_zero hl
            subst this
            rfl
          | cons d ds =>
            cases its with
            | nil => cases hl
            | cons i is => simp
        rw [hv]
        exact ⟨.bl ds.isEmpty, H, I, rfl, (Post.here (W := W) L p) _ rfl⟩
    | _ => exact p.elim
/-! ### constants of the module: tuples of data -/
mutual
def conD (K : PySem.W.Frag) : D → Value → Bool
  | .int i, u => (match u with
    | .int j _ => decide (j = i)
    | _ => false)
  | .str x, u => (match u with
    | .str y _ => decide (y = x)
    | _ => false)
  | .kt ds, u => (match u with
    | .ref a => (match K.lookup a with
      | some o => (match o.data with
        | .seq its _ => decide (o.cls = .type "tuple") && (decide (its.size ≤ 1000) && conDs K ds its.toList)
        | _ => false)
      | none => false)
    | _ => false)
  | _, _ => false
def conDs (K : PySem.W.Frag) : List D → List Value → Bool
  | [], us => us.isEmpty
  | d :: ds, us => (match us with
    | u :: us => conD K d u && conDs K ds us
    | [] => false)
end
mutual
theorem conD_ok {K : PySem.W.Frag} : ∀ (d : D) (u : Value), conD K d u = true → ∃ v, RelV v u ∧ ∀ (G : Gx), G.K = K → ∀ μ n H, RV G μ n H d v
  | .int i, u, h => by
    unfold conD at h
    cases u with
    | int j t =>
      have h := of_decide_eq_true h
      subst h
      exact ⟨.int j, ⟨t, rfl⟩, fun _ _ _ _ _ => rfl⟩
    | _ => cases h
  | .str i, u, h => by
    unfold conD at h
    cases u with
    | str j t =>
      have h := of_decide_eq_true h
      subst h
      exact ⟨.str j, ⟨t, rfl⟩, fun _ _ _ _ _ => rfl⟩
    | _ => cases h
  | .kt ds, u, h => by
    unfold conD at h
    cases u with
    | ref a =>
      dsimp only at h
      cases e1 : K.lookup a with
      | none => rw [e1] at h; cases h
      | some o =>
        rw [e1] at h
        dsimp only at h
        cases e2 : o.data with
        | seq its n =>
          rw [e2] at h
          dsimp only at h
          obtain ⟨h1, h⟩ := Bool.and_eq_true_iff.mp h
          obtain ⟨h2, h3⟩ := Bool.and_eq_true_iff.mp h
          obtain ⟨vs, hv, hr⟩ := conDs_ok ds its.toList h3
          refine ⟨.ref a, rfl, fun G hG μ n' H => ⟨a, vs, rfl, ?_, hr G hG μ n' H⟩⟩
          rw [hG]
          exact ⟨o, its, n, e1, of_decide_eq_true h1, e2, Nat.le_trans (of_decide_eq_true h2) (by decide), hv⟩
        | _ => rw [e2] at h; cases h
    | _ => cases h
  | .non, _, h => by cases h
  | .bl _, _, h => by cases h
  | .tup _, _, h => by cases h
  | .lst _, _, h => by cases h
  | .dct _ _, _, h => by cases h
  | .ref _, _, h => by cases h
  | .kl _, _, h => by cases h
  | .lam _, _, h => by cases h
  | .ft _, _, h => by cases h
theorem conDs_ok {K : PySem.W.Frag} : ∀ (ds : List D) (us : List Value), conDs K ds us = true → ∃ vs, Vals vs us ∧ ∀ (G : Gx), G.K = K → ∀ μ n H, RVs G μ n H ds vs
  | [], us, h => by
    have : us = [] := List.isEmpty_iff.mp h
    subst this
    exact ⟨[], .nil, fun _ _ _ _ _ => rfl⟩
  | d :: ds, us, h => by
    unfold conDs at h
    cases us with
    | nil => cases h
    | cons u us =>
      obtain ⟨h1, h2⟩ := Bool.and_eq_true_iff.mp h
      obtain ⟨v, r1, q1⟩ := conD_ok d u h1
      obtain ⟨vs, r2, q2⟩ := conDs_ok ds us h2
      exact ⟨v :: vs, .cons r1 r2, fun G hG μ n H => ⟨v, vs, rfl, q1 G hG μ n H, q2 G hG μ n H⟩⟩
end
/-- the constants that a law's defs look at: tuples; values of written dicts -/
def conQ (cs : List (Str × D)) (ks : List (Str × List (Str × D))) (K : PySem.W.Frag) : Bool :=
  (cs.all fun c => match PySem.W.nsIn K mainGlobals c.1 with
    | some (some u) => conD K c.2 u
    | _ => false) && ks.all fun k => (match PySem.W.nsIn K mainGlobals k.1 with
    | some (some (.ref a)) => decide (a = He.ga K k.1)
    | _ => false) && k.2.all fun q => match PySem.W.nsIn K (He.ga K k.1) q.1 with
    | some (some u) => conD K q.2 u
    | _ => false
theorem se_con {K : PySem.W.Frag} {cs : List (Str × D)} {ks : List (Str × List (Str × D))} {h : Heap} {x : Str} {d : D} (hq : conQ cs ks K = true) (KX : K.In h) (N : h.Ns mainGlobals X.mg) (hG : G.K = K) (hm : (x, d) ∈ cs) (hg : Gl X x := by rfl) (hd : (x == ("__debug__" : Str)) = false := by decide) : SE X G W (.Name x pos) (cst d) := by
  have h1 := List.all_eq_true.mp (Bool.and_eq_true_iff.mp hq).1 _ hm
  dsimp only at h1
  cases e1 : PySem.W.nsIn K mainGlobals x with
  | none => rw [e1] at h1; cases h1
  | some o =>
    rw [e1] at h1
    cases o with
    | none => cases h1
    | some u =>
      obtain ⟨v, r, q⟩ := conD_ok d u h1
      exact se_glob hg (PySem.W.mg_of KX N e1) r (q G hG) hd
/-- D[e], D a written dict of the module -/
def kdE (kvs : List (Str × D)) (fe : En → M D) : En → M D := fun σ => fe σ >>= fun d => match d with
  | .str z => (match kvs.lookup z with
    | some v => M.pure v
    | none => M.stk)
  | _ => M.stk
theorem mem_of_lookup {α : Type} {l : List (Str × α)} {k : Str} {v : α} (h : l.lookup k = some v) : (k, v) ∈ l := by
  induction l with
  | nil => cases h
  | cons p l ih =>
    rw [List.lookup_cons] at h
    cases e : k == p.1 with
    | true =>
      rw [e] at h
      have : k = p.1 := eq_of_beq e
      cases h
      rw [this]
      exact List.mem_cons_self
    | false =>
      rw [e] at h
      exact List.mem_cons_of_mem _ (ih h)
end
end Fd

set_option Elab.async false
set_option linter.all false
set_option maxRecDepth 100000
set_option maxHeartbeats 1000000
namespace Fd
open PySem PySem.Spec PyProof.Rows L2
section
variable {X : Cx} {G : Gx} {W : XK} {b : Expr} {fb : En → M D} {p pos : Pos}
/-- a look-up in a written dict of the module -/
theorem se_kd {K : PySem.W.Frag} {cs : List (Str × D)} {ks : List (Str × List (Str × D))} {kvs : List (Str × D)} {h : Heap} {x : Str} {es : Array DictEntry} {n : Nat} (hq : conQ cs ks K = true) (KX : K.In h) (N : h.Ns mainGlobals X.mg) (hG : G.K = K) (hX : X.K = K) (kd : KDict X.K X.w (He.ga K x) es n) (hm : (x, kvs) ∈ ks) (hb : SE X G W b fb)
    (hg : Gl X x := by rfl) (hs : NoSl b := by intro _ _; rfl) (hd : (x == ("__debug__" : Str)) = false := by decide) : SE X G W (.Subscript (.Name x p) b pos) (kdE kvs fb) := by
  have h0 := List.all_eq_true.mp (Bool.and_eq_true_iff.mp hq).2 _ hm
  obtain ⟨h1, h2⟩ := Bool.and_eq_true_iff.mp h0
  have hmx : X.mg x = some (.ref (He.ga K x)) := by
    dsimp only at h1
    cases e1 : PySem.W.nsIn K mainGlobals x with
    | none => rw [e1] at h1; cases h1
    | some o =>
      rw [e1] at h1
      cases o with
      | none => cases h1
      | some u =>
        cases u with
        | ref a =>
          have h1 := of_decide_eq_true h1
          subst h1
          exact PySem.W.mg_of KX N e1
        | _ => cases h1
  have ho := pe_glob (X := X) (pos := p) (v := V.ref (He.ga K x)) hg hmx rfl hd
  refine ⟨fun pins s σ H Q I ⟨σd, S, μ, a0, hp⟩ => ?_⟩
  refine subD_of PySem.F.slot_dict_getitem.lookup hs (thn (ho.run pins s σ H (fun v H1 => v = .ref (He.ga K x) ∧ H1 = H) I ⟨rfl, rfl⟩) fun u s1 ⟨z, H1, I1, rx, ez, eH⟩ => ?_)
  subst ez eH
  obtain rfl : u = Value.ref (He.ga K x) := rx
  have hr : rdE G W fb σ H1 (fun y H2 => ∃ z v0 u0, y = .str z ∧ PySem.W.nsIn X.K (He.ga K x) z = some (some u0) ∧ RelV v0 u0 ∧ Q v0 H2) := by
    refine rdE_bind (k := fun _ (d : D) => match d with
      | .str z => (match kvs.lookup z with
        | some v => M.pure v
        | none => M.stk)
      | _ => M.stk) a0 hp fun d S1 μ1 H2 v s2 a1 rv q => ?_
    cases d with
    | str z =>
      dsimp only at q
      cases e2 : kvs.lookup z with
      | none => rw [e2] at q; exact q.elim
      | some dv =>
        rw [e2] at q
        have h3 := List.all_eq_true.mp h2 _ (mem_of_lookup e2)
        dsimp only at h3
        cases e3 : PySem.W.nsIn K (He.ga K x) z with
        | none => rw [e3] at h3; cases h3
        | some o =>
          rw [e3] at h3
          cases o with
          | none => cases h3
          | some u0 =>
            obtain ⟨v0, r0, q0⟩ := conD_ok dv u0 h3
            exact ⟨z, v0, u0, rv, by rw [hX]; exact e3, r0, (Post.here (W := W) a1.lnk q) _ (q0 G hG _ _ _)⟩
    | _ => exact q.elim
  refine thn (hb.run pins s1 σ H1 _ I1 hr) fun iv s2 ⟨y, H2, I2, ry, z, v0, u0, ey, e3, r0, q⟩ => ?_
  exact ⟨kd_type kd I2, op_item_kd kd pins s2 σ H2 (.ref (He.ga K x)) y _ iv Q I2 rfl ry ⟨z, u0, v0, rfl, ey, e3, r0, q⟩⟩
end
end Fd

set_option Elab.async false
set_option linter.all false
set_option maxRecDepth 100000
set_option maxHeartbeats 1000000
namespace Fd
open PySem PySem.Spec PyProof.Rows L2
/-! ### {k: v for ..}, an owned dict whose keys are ints and texts -/
def bodK (vs : List Nat) (g : D → En → M En) (t : En → M Bool) (fk fv : En → M D) (σ : En) : D → M (Option (D × D)) := fun d => g d (wipeE σ vs) >>= fun σ1 => t σ1 >>= fun b => if b = true then fk σ1 >>= fun k => fv σ1 >>= fun v => M.pure (some (k, v)) else M.pure none
def putO (l : Nat) (k v : D) : M Unit := fun S => match S.objs[l]? with
  | some (.dct false kvs) => (match atomK k with
    | some kk => if S.locked l = false ∧ kvs.length < sizeLine then .ok () (S.put l (.dct false (put kvs (.k kk) v))) else .stk
    | none => .stk)
  | _ => .stk
def dcL (bod : D → M (Option (D × D))) (l : Nat) : List D → M D
  | [] => M.pure (.ref l)
  | x :: xs => nox (bod x) >>= fun o => match o with
    | none => dcL bod l xs
    | some p => putO l p.1 p.2 >>= fun _ => dcL bod l xs
def dcE (fit : En → M (List D)) (vs : List Nat) (g : D → En → M En) (t : En → M Bool) (fk fv : En → M D) : En → M D := fun σ => fit σ >>= fun ds S => dcL (bodK vs g t fk fv σ) S.n ds (S.push (.dct false []))
section
variable {X : Cx} {G : Gx} {W : XK} {kx vx tg iter : Expr} {ifs : List Expr} {scope : Scope} {pos : Pos} {fit : En → M (List D)} {g : D → En → M En} {t : En → M Bool} {fk fv : En → M D}
theorem putO_ok {μ : Nat → Addr} {S : Sto} {H : Hp} (L : Lnk G μ S H) {α : Type} {Q : α → Sto → (Nat → Addr) → Hp → Prop} {kk : M α} {l : Nat} {k v : D} {y z : V} (hl : l < S.n) (rk : RV G μ S.n H k y) (rv : RV G μ S.n H v z) (p : Post G μ S H W Q ((putO l k v >>= fun _ => kk) S)) :
    ∃ kvs k0, y = kV k0 ∧ H (μ l) = some (.dK kvs) ∧ kvs.length < sizeLine ∧ ∃ S', Stp G μ S H μ S' (upd H (μ l) (.dK (putK kvs k0 z))) ∧ S'.n = S.n ∧ Post G μ S' (upd H (μ l) (.dK (putK kvs k0 z))) W Q (kk S') := by
  have p := Post.bind (k := fun _ => kk) p
  unfold putO at p
  cases eo : S.objs[l]? with
  | none => rw [eo] at p; exact p.elim
  | some ob =>
    rw [eo] at p
    cases ob with
    | lst _ => exact p.elim
    | ins _ _ => exact p.elim
    | dct t kvs =>
      cases t with
      | true => exact p.elim
      | false =>
        dsimp only at p
        cases e1 : atomK k with
        | none => rw [e1] at p; exact p.elim
        | some k0 =>
          rw [e1] at p
          dsimp only at p
          by_cases hc : S.locked l = false ∧ kvs.length < sizeLine
          · rw [if_pos hc] at p
            obtain ⟨us, o, h1, h2, h3⟩ := L.ob _ _ eo
            rw [hc.1] at h1
            have h1 : H (μ l) = some o := h1
            cases h2 with
            | k ls =>
              have gr := grow_put (u := .dK (putK ls k0 z)) L hl h1 (fun _ _ e => by cases e) (fun _ e => by cases e)
              have st : Stp G μ S H μ (S.put l (.dct false (put kvs (.k k0) v))) (upd H (μ l) (.dK (putK ls k0 z))) := Stp.put L hl hc.1 h1 (fun _ _ e => by cases e) (fun _ e => by cases e) (fun _ e => by cases e) (fun _ e => by cases e)
                ⟨_, _, upd_same, .k _, RVk.mono gr L.tf _ _ (rvk_put (fun _ _ => dk_inj) h3 rv)⟩
              refine ⟨ls, k0, atomK_ok rk e1, h1, ?_, _, st, Sto.put_n .., Post.here (W := W) st.lnk (p.later st)⟩
              have := h3.length
              rw [List.length_map] at this
              omega
          · rw [if_neg hc] at p; exact p.elim
theorem se_dc {own : List (Str × Nat)} (hc : X.calm = true) (hN : X.N.Nodup) (hi : SI X G W tg iter fit) (ok : BlkOk X.N X.env.scope scope own)
    (pc : ∀ (s : Shared) (H : Hp) (C : Addr) (cl : List (Str × Addr)) (fp : List Addr), SGc (X.blk s H scope (compEnvC scope cl C X.env) fp) G NoX (own.map (·.2)) tg g ∧ STs (X.blk s H scope (compEnvC scope cl C X.env) fp) G NoX ifs t ∧ SE (X.blk s H scope (compEnvC scope cl C X.env) fp) G NoX kx fk ∧ SE (X.blk s H scope (compEnvC scope cl C X.env) fp) G NoX vx fv)
    (hs : ∀ x, foldedSetIterable iter X.env x = pure x := by intro _; rfl) :
    SE X G W (.DictComp kx vx [⟨tg, iter, ifs, 0⟩] scope pos) (dcE fit (own.map (·.2)) g t fk fv) := by
  refine pe_imp (pe_dc hc hN hi ok (fun s H C cl fp => (pc s H C cl fp).1) (fun s H C cl fp => (pc s H C cl fp).2.1) (fun s H C cl fp => (pc s H C cl fp).2.2.1) (fun s H C cl fp => (pc s H C cl fp).2.2.2) hs) fun σ H Q ⟨σd, S, μ, a0, p⟩ => ?_
  have p := Post.bind (k := fun ds S => dcL (bodK (own.map (·.2)) g t fk fv σd) S.n ds (S.push (.dct false []))) p
  refine ⟨σd, S, μ, a0, p.mono fun ds S1 μ1 H1 s1 q J iok D hD => ?_⟩
  obtain ⟨vs, evs⟩ : ∃ vs, vs = own.map (·.2) := ⟨_, rfl⟩
  rw [← evs] at q ⊢
  have a1 : At G σd S1 μ1 σ H1 := a0.step s1
  have s2 := own_dct (t := false) (kvs := []) (vs := []) a1.lnk hD (.k []) rfl
  have a2 : At G σd (S1.push (.dct false [])) (putMu μ1 S1.n D) σ (upd H1 D (.dK [])) := a1.step s2
  obtain ⟨l, el⟩ : ∃ l, l = S1.n := ⟨_, rfl⟩
  rw [← el] at q
  have hl2 : l < (S1.push (.dct false [])).n := by rw [Sto.push_n, el]; exact Nat.lt_succ_self _
  have hmu : putMu μ1 S1.n D l = D := by rw [el, putMu_same]
  have p2 : Post G (putMu μ1 S1.n D) (S1.push (.dct false [])) (upd H1 D (.dK [])) W (WQ G Q) (dcL (bodK vs g t fk fv σd) l ds (S1.push (.dct false []))) := by
    exact q.later s2
  generalize S1.push (.dct false []) = S2 at a2 s2 hl2 p2
  generalize putMu μ1 S1.n D = μ2 at a2 s2 hmu p2
  generalize hH2 : upd H1 D (.dK []) = H2 at a2 s2 p2 ⊢
  refine ⟨fun i m H => m = ds.length - i ∧ i ≤ ds.length ∧ ∃ S μ, Stp G μ2 S2 H2 μ S H ∧ Post G μ S H W (WQ G Q) (dcL (bodK vs g t fk fv σd) l (ds.drop i) S), ⟨ds.length, by simp, Nat.zero_le _, S2, μ2, .refl a2.lnk, by simpa using p2⟩, ?_⟩
  rintro i m H' ⟨rfl, hi', S3, μ3, s3, p3⟩
  obtain ⟨o1, o2, o3⟩ := iok μ3 S3 H' (s2.trans s3)
  have hl3 : l < S3.n := Nat.lt_of_lt_of_le hl2 s3.grow.agr.1
  have hm3 : μ3 l = D := by rw [s3.grow.agr.2 l hl2, hmu]
  by_cases hlt : i < ds.length
  · refine .inr ⟨o1 i hlt, fun H'' => ∃ S μ, Stp G μ2 S2 H2 μ S H'' ∧ Post G μ S H'' W (WQ G Q) (dcL (bodK vs g t fk fv σd) l (ds.drop (i + 1)) S), fun H'' ⟨S, μ, z1, z2⟩ => ⟨ds.length - (i + 1), by omega, rfl, hlt, S, μ, z1, z2⟩, fun x H'' y => ?_⟩
    have hd : ds[i]? = some ds[i] := List.getElem?_eq_getElem hlt
    obtain ⟨s4, r4⟩ := o3 i _ hd x H'' y
    rw [List.drop_eq_getElem_cons hlt] at p3
    have p4 := nox_bind (k := fun (o : Option (Fd.D × Fd.D)) => match o with
      | none => dcL (bodK vs g t fk fv σd) l (ds.drop (i + 1))
      | some p => putO l p.1 p.2 >>= fun _ => dcL (bodK vs g t fk fv σd) l (ds.drop (i + 1))) p3
    have a3 : At G σd S3 μ3 σ H' := a2.step s3
    refine ⟨ds[i], wipeE σd vs, S3, μ3, (a3.step s4).wipe vs, r4, ?_⟩
    have p5 := Post.bind (k := fun σ1 => t σ1 >>= fun b => if b = true then fk σ1 >>= fun k => fv σ1 >>= fun v => M.pure (some (k, v)) else M.pure none) p4
    refine (p5.later s4).mono fun σd5 S5 μ5 H5 s5 q5 σ5 en5 hw => ⟨hw.trans (wipe_wipe σ vs), ?_⟩
    refine ⟨σd5, S5, μ5, ⟨en5, s5.lnk⟩, (Post.bind (k := fun b => if b = true then fk σd5 >>= fun k => fv σd5 >>= fun v => M.pure (some (k, v)) else M.pure none) q5).mono fun b S6 μ6 H6 s6 q6 => ?_⟩
    have s26 := ((s3.trans s4).trans s5).trans s6
    cases b with
    | false =>
      have q7 := Post.here (W := NoX) s6.lnk q6
      exact ⟨S6, μ6, s26, q7⟩
    | true =>
      refine ⟨σd5, S6, μ6, ⟨en5.mono s6.grow s5.lnk.tf, s6.lnk⟩, (Post.bind (k := fun k => fv σd5 >>= fun v => M.pure (some (k, v))) q6).mono fun kd S7 μ7 H7 s7 q7 yk rk => ?_⟩
      have en7 := (en5.mono s6.grow s5.lnk.tf).mono s7.grow s6.lnk.tf
      refine ⟨σd5, S7, μ7, ⟨en7, s7.lnk⟩, (Post.bind (k := fun v => M.pure (some (kd, v))) q7).mono fun vd S8 μ8 H8 s8 q8 zv rv => ?_⟩
      have q9 := Post.here (W := NoX) s8.lnk q8
      have s28 := (s26.trans s7).trans s8
      have hl8 : l < S8.n := Nat.lt_of_lt_of_le hl2 s28.grow.agr.1
      have hm8 : μ8 l = D := by rw [s28.grow.agr.2 l hl2, hmu]
      obtain ⟨kvs, k0, e1, e2, e3, S9, s9, _, p9⟩ := putO_ok (kk := dcL (bodK vs g t fk fv σd) l (ds.drop (i + 1))) s8.lnk hl8 (s8.rv s7.lnk rk) rv q9
      rw [hm8] at e2 s9 p9
      exact ⟨kvs, k0, e1, e2, e3, S9, μ8, s28.trans s9, p9⟩
  · have e : i = ds.length := by omega
    subst e
    rw [List.drop_length] at p3
    exact .inl ⟨o2, (Post.here (W := W) s3.lnk p3) _ ⟨hl3, by rw [hm3]⟩⟩
end
end Fd

set_option Elab.async false
set_option linter.all false
set_option maxRecDepth 100000
set_option maxHeartbeats 1000000
namespace Fd
open PySem PySem.Spec PyProof.Rows L2 GenW LamX
section
variable {X : Cx} {G : Gx} {W : XK} {tg elt iter : Expr} {ifs : List Expr} {scope : Scope} {gpos : Pos} {vs : List Nat} {g : D → En → M En} {t : En → M Bool} {fe : En → M D}
/-! ### sorted(.. for ..) -/
def finSrt (own : Bool) : List D → M D := fun ys S => match pysD S ys with
  | some ps => if (alikeC ps && sortableC ps) = true then (if own = true then newL (sortP (ys.zip ps)) S else .ok (.lst (sortP (ys.zip ps))) S) else .stk
  | none => .stk
theorem near_in3 (hd : X.A.handled = none) : Near X X.A.in1.in1.in1 := ⟨hd, rfl, Nat.le_succ _, by show X.A.units + 1 + 1 + 1 ≤ _; omega⟩
theorem use_sorted {k : Nat} (own : Bool) (hK : G.K = X.K) (hr : Room k X.A) (hc : X.calm = true) (hco : scope.isCoroutine = false) (pc : GPc X G scope vs tg elt ifs g t fe) : UseG X G W scope gpos vs tg elt iter ifs g t fe chkAll (finSrt own) (.builtin "sorted") := by
  intro pins σ R a gi s5 s4 H4 genv fp it tn J Q ds μ1 S1 σd M a1 ok q
  have hu := hr.units
  refine Calls.call_function_entry PyProof.Rows.kind_sorted PyProof.Rows.plain_sorted PyProof.Rows.entry_sorted (PyProof.Rows.args_sorted1 _) ?_
  unfold Builtin.«sorted»
  refine wpAny_bind (m := checkCount "sorted" 1 1 _) (wpAny_pure ?_)
  refine wpAny_bind (gen_collect (A := X.A.in1) (k := k) (near_in3 hr.hd) hr rfl hr.hd hc hco pc M a1 ok q fun us s' H' ys vv S2 μ I' rv hz rys L2 p => ?_)
  unfold finSrt at p
  cases e2 : pysD S2 ys with
  | none => rw [e2] at p; exact p.elim
  | some ps =>
    rw [e2] at p
    dsimp only at p
    by_cases hcc : (alikeC ps && sortableC ps) = true
    · rw [if_pos hcc] at p
      exact sort_tail own hK (by show X.A.units + 1 + 20 < cLine; omega) I' L2 rys rv e2 hcc hz p fun l s' hl => ⟨_, rfl, hl⟩
    · rw [if_neg hcc] at p; exact p.elim
end
/-! ### the rest of a def in an empty store, some slots kept -/
def keepE (ks : List Nat) (σ : En) : En := σ.mapIdx fun i o => if ks.contains i then o else none
def okE (ks : List Nat) (σ : En) : Bool := ks.all fun i => match σ[i]? with
  | some (some d) => noRef d
  | _ => true
def freshT (ks : List Nat) (g : En → M Fl) : En → M Fl := fun σ S => if okE ks σ = true then (match g (keepE ks σ) Sto.e with
  | .ok (.rt d) _ => if flat d = true then .ok (.rt d) S else .stk
  | _ => .stk) else .stk
theorem sss_freshT (ks : List Nat) {X : Cx} {G : Gx} {W : XK} {rest : List Stmt} {g : En → M Fl} (h : SSs X G W rest g) : SSs X G W rest (freshT ks g) := by
  refine ⟨fun pins s σ H Dn I ⟨σd, S, μ, a, p⟩ => h.run pins s σ H Dn I ?_⟩
  unfold freshT at p
  by_cases ho : okE ks σd = true
  · rw [if_pos ho] at p
    refine ⟨keepE ks σd, Sto.e, μ, ⟨⟨by unfold keepE; rw [List.length_mapIdx]; exact a.en.len, fun i d e => ?_⟩, a.lnk.empty⟩, ?_⟩
    · unfold keepE at e
      rw [List.getElem?_mapIdx] at e
      cases q : σd[i]? with
      | none => rw [q] at e; cases e
      | some x =>
        rw [q] at e
        dsimp only [Option.map_some] at e
        by_cases hi : ks.contains i = true
        · rw [if_pos hi] at e
          have e : x = some d := Option.some.inj e
          subst e
          obtain ⟨v, h1, h2⟩ := a.en.at_ i d q
          refine ⟨v, h1, ?_⟩
          have hm : i ∈ ks := by simpa using hi
          have h3 := List.all_eq_true.mp ho i hm
          rw [q] at h3
          exact rv_zero d v h3 h2
        · rw [if_neg hi] at e
          cases e
    · cases e : g (keepE ks σd) Sto.e with
      | stk => rw [e] at p; exact p.elim
      | exc c S' => rw [e] at p; exact p.elim
      | ok fl S' =>
        rw [e] at p
        cases fl with
        | rt d =>
          simp only at p
          by_cases hf : flat d = true
          · rw [if_pos hf] at p
            exact fun μ' H' s v rv => p μ H' (Stp.forget a.lnk s) v (rv_flat d v hf rv)
          · rw [if_neg hf] at p; exact p.elim
        | _ => exact p.elim
  · rw [if_neg ho] at p; exact p.elim
end Fd

set_option Elab.async false
set_option linter.all false
set_option maxRecDepth 100000
set_option maxHeartbeats 1000000
namespace Fd
open PySem PySem.Spec PyProof.Rows L2
section
variable {X : Cx} {G : Gx} {W : XK}
/-! ### sorted of a tuple -/
def sortTC (own : Bool) : List D → M D := fun ds S => match ds with
  | [d] => (match tupD d with
    | some xs => finSrt own xs S
    | none => .stk)
  | _ => .stk
theorem cd_sortT (own : Bool) (hK : G.K = X.K) (hu : X.A.units + 64 < cLine) : CallD X G W (.builtin "sorted") (sortTC own) := by
  intro pins s σ H vs us Q I rv ⟨ds, S, μ, L, r, p⟩
  unfold sortTC at p
  match ds, r, p with
  | [d], r, p =>
    obtain ⟨v, rfl, rd⟩ := rvs1 r
    simp only at p
    cases e0 : tupD d with
    | none => rw [e0] at p; exact p.elim
    | some xs =>
      rw [e0] at p
      unfold finSrt at p
      dsimp only at p
      cases e2 : pysD S xs with
      | none => rw [e2] at p; exact p.elim
      | some ps =>
        rw [e2] at p
        dsimp only at p
        by_cases hcc : (alikeC ps && sortableC ps) = true
        · rw [if_pos hcc] at p
          obtain ⟨a, ws, rfl, hs, rs⟩ := tupD_ok rd e0
          rw [hK] at hs
          rw [Vals.ref1 rv]
          obtain ⟨its, rw', pl, hz⟩ := I.tuple hs
          obtain ⟨⟨cls, dd, dt, sl⟩, ho, hcl, n, hd⟩ := pl
          simp only at hcl hd
          subst hcl hd
          refine Calls.call_function_entry PyProof.Rows.kind_sorted PyProof.Rows.plain_sorted PyProof.Rows.entry_sorted (PyProof.Rows.args_sorted1 _) ?_
          unfold Builtin.«sorted»
          refine wpAny_bind (m := checkCount "sorted" 1 1 _) (wpAny_pure ?_)
          have hz2 : its.toArray.size ≤ sizeLine := by
            rw [List.size_toArray]
            have := rw'.length
            omega
          refine wpAny_bind (wpAny_collect_seq a (.inr rfl) ho rfl rfl (fun h' hk => ?_) hz2)
          exact sort_tail own hK (by show X.A.units + 1 + 20 < cLine; omega) (I.kept (t' := s.toks) hk) L rs rw' e2 hcc (by simpa using hz2) p fun l s' hl => ⟨_, rfl, hl⟩
        · rw [if_neg hcc] at p; exact p.elim
  | [], _, p => exact p.elim
  | _ :: _ :: _, _, p => exact p.elim
end
end Fd

set_option Elab.async false
set_option linter.all false
set_option maxRecDepth 100000
set_option maxHeartbeats 1000000
namespace Fd
open PySem PySem.Spec PyProof.Rows L2
/-! ### the end, with more facts -/
section
variable {l : PySem.W.OpenLaw} {fa : List He.Fa} {fn : List He.DefD} {ts : List He.Tab} {tq : List TabQ} {ex : PySem.W.Frag → Bool} {w : World} {h : Heap} {K : PySem.W.Frag} {mg : Str → Option Value} {d : He.DefD} {k n i : Nat} {f : Addr}
def exC (tq : List TabQ) (cs : List (Str × D)) (ks : List (Str × List (Str × D))) (K : PySem.W.Frag) : Bool := exQ tq K && conQ cs ks K
theorem lawAtC_of {cs : List (Str × D)} {ks : List (Str × List (Str × D))} (KX : K.In h) (Gh : h.Ns mainGlobals mg) (c : He.SaysX fa fn ts (tq.map (·.1)) (exC tq cs ks) w h K) (hf : mg "law" = some (.ref f)) (hg : fa[i]? = some (.glo "law")) {j : Nat} (hd : fn[j]? = some d) (hat : d.at_ = (("law" : Str), (none : Option Str))) (hdf : d.dfl = [])
    (hbn : ∀ (kV doc pm : Value) (an : Option Addr) (cdv ct : Value) (us : List Value), us.length = ["script"].length → bindArgs (PySem.W.fnOf d.name d.qual d.params d.body d.scope .none kV doc pm an cdv ct) ⟨us, []⟩ = pure ((["script"] : List Str).zip us))
    (hF : ∀ base : Heap, Ev fa fn ts tq (exC tq cs ks) w h K mg base → FnOk l.prog w K mg base (L2.CX l.prog w) k (He.fAd K d.at_) (fdOf K d.at_) ["script"] (spLaw K (TQ tq K) n)) : LamX.LawAtS l w K (L2.CX l.prog w) k n "script" mg f h := by
  have ev : ∀ base : Heap, (∀ p ∈ (tq.map (·.1)).map (He.cT K), LamX.TabB base mg p.1 p.2) → Ev fa fn ts tq (exC tq cs ks) w h K mg base := fun base hB => ⟨KX, Gh, c, fun p hp => hB _ (List.mem_map.mpr ⟨p, hp, rfl⟩), of_decide_eq_true (Bool.and_eq_true_iff.mp c.more).1⟩
  have ef : f = He.fAd K d.at_ := by
    have q := He.glo_ok KX Gh (c.t.d.fact i hg)
    rw [hf] at q
    rw [hat]
    cases q
    rfl
  subst ef
  obtain ⟨fd, F⟩ := c.t.d.def_ j hd
  have q : fdOf K d.at_ = fd := by
    obtain ⟨oc, od, dV, kV, doc, pm, an, cdv, ct, osl, e1, lk, _⟩ := F.ex
    unfold fdOf
    rw [lk]
  refine ⟨fdOf K d.at_, (tq.map (·.1)).map (He.cT K), spLaw K (TQ tq K) n, fun p hp => ?_, fun p hp => ?_, fun p hp => ?_, fun s u => ?_, fun H a ns hl hb hH hS => ?_, fun base _ _ hB => hF base (ev base hB)⟩
  · obtain ⟨x, hx, rfl⟩ := List.mem_map.mp hp
    exact c.empty x hx
  · obtain ⟨x, hx, rfl⟩ := List.mem_map.mp hp
    exact c.out x hx
  · obtain ⟨x, hx, rfl⟩ := List.mem_map.mp hp
    exact PySem.W.codeHd_of_K KX (c.hd x hx)
  · rw [q]
    have e0 : d.dvs K = [] := by unfold He.DefD.dvs; rw [hdf]; rfl
    rw [e0] at F
    exact FunD.bindsA (ps := ["script"]) F hbn s [u] rfl
  · refine ⟨a, ns, rfl, hS, hl, hb, fun p hp => ?_, fun _ => rfl⟩
    obtain ⟨x, hx, rfl⟩ := List.mem_map.mp hp
    exact LamX.TabS.nil (hH _ (List.mem_map.mpr ⟨x.1, List.mem_map.mpr ⟨x, hx, rfl⟩, rfl⟩))
theorem Ev.con {cs : List (Str × Fd.D)} {ks : List (Str × List (Str × Fd.D))} {base : Heap} (e : Ev fa fn ts tq (exC tq cs ks) w h K mg base) : conQ cs ks K = true := (Bool.and_eq_true_iff.mp e.S.more).2
theorem Ev.kd {base : Heap} (e : Ev fa fn ts tq ex w h K mg base) (i : Nat) {t : He.Tab} (hi : ts[i]? = some t := by rfl) : ∃ es n, KDict K w (t.1 K) es n := e.S.t.tab i hi
end
end Fd

set_option Elab.async false
set_option linter.all false
set_option maxRecDepth 100000
set_option maxHeartbeats 1000000
namespace Fd
open PySem PySem.Spec PyProof.Rows L2
/-! ### tuples whose object is known: made by displays and by +; they have methods -/
section
variable {X : Cx} {G : Gx} {W : XK} {o e : Expr} {es : List Expr} {fo : En → M D} {fr : En → M (List D)} {t : TA} {to : TE} {pos apos cpos : Pos}
def tTupF (t : TA) : TE := fun σ H Q => t σ H fun xs H1 => xs.length ≤ sizeLine ∧ ∀ p od, H1 p = none → od.dict = none → Q (.ref p) (upd H1 p (.frz od (.tup xs)))
theorem pe_tupF {x1} (h : PA X es t) : PE X (.Tuple es x1 pos) (tTupF t) := by
  refine ⟨fun pins s σ H Q I hq => ?_⟩
  refine wpAny_Tuple_spliced (thn (h.run pos pins s σ H _ I hq) fun us s1 ⟨xs, H1, I1, r, z, q⟩ => ⟨by rw [← r.length]; exact z, ?_⟩)
  have hf : H1 s1.heap.objs.size = none := I1.hok.fresh (Nat.le_refl _)
  refine ⟨.ref s1.heap.objs.size, upd H1 s1.heap.objs.size (.frz _ (.tup xs)), I1.laid (t' := s1.toks) (fun b u e => Heap.get?_push_of_some _ e) (Nat.le_refl _) ⟨Heap.get?_push_size _ rfl, ?_⟩, rfl, q _ _ hf rfl⟩
  exact ⟨z, us, r, ⟨_, Heap.get?_push_size _ rfl, rfl, _, rfl⟩⟩
def rCatF (K : PySem.W.Frag) : R2 := fun x y H Q => ∃ a b xs ys, x = .ref a ∧ y = .ref b ∧ SqT K H a xs ∧ SqT K H b ys ∧ xs.length + ys.length ≤ sizeLine ∧
  (xs = [] → Q (.ref b) H) ∧ (xs ≠ [] → ys = [] → Q (.ref a) H) ∧ ∀ p od, H p = none → od.dict = none → Q (.ref p) (upd H p (.frz od (.tup (xs ++ ys))))
theorem op_catF : OpR X (binaryOp .Add) (rCatF X.K) := by
  intro pins s σ H x y v u Q I rx ry h
  obtain ⟨a, b, xs, ys, rfl, rfl, ha, hb, hz, q0, q1, q2⟩ := h
  cases rx
  cases ry
  obtain ⟨its, r1, p1, _⟩ := I.tuple ha
  obtain ⟨its2, r2, p2, _⟩ := I.tuple hb
  by_cases hx : xs = []
  · subst hx
    cases r1
    exact cat_tup0 p1 p2 ⟨.ref b, H, I, rfl, q0 rfl⟩
  · refine HT.cat_tup p1 p2 (fun z => hx (r1.nil_iff.mp z)) (fun z => ⟨.ref a, H, I, rfl, q1 hx (r2.nil_iff.mp z)⟩) (fun z => ?_) (by rw [← r1.length, ← r2.length]; exact hz)
    refine ⟨.ref s.heap.objs.size, upd H s.heap.objs.size (.frz _ (.tup (xs ++ ys))), I.laid (t' := s.toks) (fun b ob q => Heap.get?_push_of_some _ q) (Nat.le_refl _) ⟨Heap.get?_push_size _ rfl, ?_⟩, rfl, q2 _ _ (I.hok.fresh (Nat.le_refl _)) rfl⟩
    exact ⟨by rw [List.length_append]; exact hz, _, r1.append r2, IsTup.new _ _⟩
/-- a method of such a tuple -/
def tTM (K : PySem.W.Frag) (r : V → List V → Hp → VK → Prop) (to : TE) (t : TA) : TE := fun σ H Q => to σ H fun x H1 => (∃ a od xs, x = .ref a ∧ H1 a = some (.frz od (.tup xs)) ∧ od.dict = none) ∧ t σ H1 fun vs H2 => r x vs H2 Q
theorem pe_tm {id : String} {name : Str} {r : V → List V → Hp → VK → Prop} (pa : PlainAttrs "tuple") (slot : Slot "tuple" name id) (hty : typeOf (.builtin id) = pure (.type "method_descriptor")) (hm : MtR X id r) (ho : PE X o to) (ha : PA X (e :: es) t)
    (hbase : attributeBase o name X.env (eval o X.env) = eval o X.env := by rfl)
    (hfew : ((backTo cpos (starEach (e :: es) X.env)).all (fun x => !x.1) && (backToKw cpos (keywordEach [] X.env)).all (fun x => x.1.isSome)
      && decide ((e :: es).length + ([] : List Keyword).length + (if ([] : List Keyword).isEmpty then 0 else 1) < 30)) = true := by rfl)
    (hline : (apos.endLine == cpos.line) = true := by rfl) (hs : starEach (e :: es) X.env = (false, eval e X.env) :: starEach es X.env := by rfl) (hplain : (backTo cpos (starEach es X.env)).any (·.1) = false := by rfl) :
    PE X (.Call (.Attribute o name apos) (e :: es) [] cpos) (tTM X.K r to t) := by
  refine ⟨fun pins s σ H Q I h => ?_⟩
  refine wpAny_Call_method_late hbase hfew hline rfl (thn (ho.run pins s σ H _ I h) fun v s1 ⟨x, H1, I1, r1, ⟨a, od, xs, ex, hx, hd⟩, q1⟩ => ?_)
  subst ex
  obtain rfl : v = Value.ref a := r1
  obtain ⟨g1, g2⟩ := I1.hok a _ hx
  obtain ⟨_, its, _, ⟨o2, g3, g4, _⟩⟩ := g2
  have eo : o2 = od := by rw [g1] at g3; exact (Option.some.inj g3).symm
  subst eo
  refine ⟨"tuple", id, pa, slot, hty, ⟨o2, g1, g4⟩, fun b e => by cases e; exact ⟨o2, g1, hd⟩, ?_⟩
  have hA := ha.run cpos pins s1 σ H1 _ I1 q1
  rw [hs] at hA ⊢
  refine Calls.callWith_builtin (by show (false || (backTo cpos (starEach es X.env)).any (·.1)) = false; rw [hplain] <;> rfl) (Calls.evalArgs_plain ?_)
  exact thn hA fun us s2 ⟨vs, H2, I2, r2, q2⟩ => hm pins s2 σ H2 (.ref a) vs _ us Q I2 rfl r2 q2
/-! the same, of data -/
def tupF (fr : En → M (List D)) : En → M D := fun σ => fr σ >>= fun ds => if ds.length ≤ sizeLine then M.pure (.ft ds) else M.stk
theorem new_ft {μ : Nat → Addr} {S : Sto} {H : Hp} (L : Lnk G μ S H) {p : Addr} {od : Obj} {ds : List D} {vs : List V} (hp : H p = none) (hd : od.dict = none) (r : RVs G μ S.n H ds vs) : Stp G μ S H μ S (upd H p (.frz od (.tup vs))) ∧ RV G μ S.n (upd H p (.frz od (.tup vs))) (.ft ds) (.ref p) := by
  have st : Stp G μ S H μ S (upd H p (.frz od (.tup vs))) := Stp.new L hp
  exact ⟨st, p, vs, od, rfl, notOwn_new L hp, upd_same, hd, st.rvs L r⟩
theorem se_tupF {x1} (h : SA X G W es fr) : SE X G W (.Tuple es x1 pos) (tupF fr) := by
  refine pe_imp (pe_tupF h) fun σ H Q ⟨σd, S, μ, a0, q⟩ => ?_
  refine rdA_bind (k := fun _ ds => if ds.length ≤ sizeLine then M.pure (D.ft ds) else M.stk) a0 q fun ds S1 μ1 H1 vs s a1 r p => ?_
  by_cases hz : ds.length ≤ sizeLine
  · rw [if_pos hz] at p
    refine ⟨by rw [← r.length]; exact hz, fun pp od hp hd => ?_⟩
    obtain ⟨st, rv⟩ := new_ft a1.lnk hp hd r
    exact Post.step st p _ rv
  · rw [if_neg hz] at p; exact p.elim
def addF : D → D → M D := fun x y => match x, y with
  | .ft xs, .ft ys => if xs.length + ys.length ≤ sizeLine then M.pure (.ft (xs ++ ys)) else M.stk
  | _, _ => M.stk
theorem od_addF : OpD X G W (binaryOp .Add) addF := opR_imp op_catF fun x y H Q ⟨d, e, S, μ, L, r1, r2, p⟩ => by
  unfold addF at p
  cases d with
  | ft xs =>
    cases e with
    | ft ys =>
      dsimp only at p
      by_cases hz : xs.length + ys.length ≤ sizeLine
      · rw [if_pos hz] at p
        obtain ⟨a, vs, od, rfl, no, h1, h2, h3⟩ := r1
        obtain ⟨b, us, od2, rfl, no2, g1, g2, g3⟩ := r2
        refine ⟨a, b, vs, us, rfl, rfl, .inl (.inr ⟨od, h1⟩), .inl (.inr ⟨od2, g1⟩), by rw [← h3.length, ← g3.length]; exact hz, fun z => ?_, fun _ z => ?_, fun pp od3 hp hd => ?_⟩
        · subst z
          have : xs = [] := List.eq_nil_of_length_eq_zero h3.length
          subst this
          exact (Post.here (W := W) L p) _ ⟨b, us, od2, rfl, no2, g1, g2, g3⟩
        · subst z
          have : ys = [] := List.eq_nil_of_length_eq_zero g3.length
          subst this
          rw [List.append_nil] at p
          exact (Post.here (W := W) L p) _ ⟨a, vs, od, rfl, no, h1, h2, h3⟩
        · obtain ⟨st, rv⟩ := new_ft L hp hd (h3.append g3)
          exact Post.step st p _ rv
      · rw [if_neg hz] at p; exact p.elim
    | _ => exact p.elim
  | _ => exact p.elim
/-- t.index(x) of texts, t such a tuple -/
def tindF : D → List D → M D := fun x ds S => match x with
  | .ft ys => (match ds with
    | [d] => (match strD d with
      | some z => (match ys.mapM strD with
        | some ss => (match ss.findIdx? fun s => decide (s = z) with
          | some j => .ok (.int (j : Nat)) S
          | none => .stk)
        | none => .stk)
      | none => .stk)
    | _ => .stk)
  | _ => .stk
def isFt : D → M Unit := fun x S => match x with
  | .ft _ => .ok () S
  | _ => .stk
def tmE (fo : En → M D) (fr : En → M (List D)) : En → M D := fun σ => fo σ >>= fun x => isFt x >>= fun _ => fr σ >>= fun xs => tindF x xs
theorem se_tind (ho : SE X G W o fo) (ha : SA X G W (e :: es) fr)
    (hbase : attributeBase o "index" X.env (eval o X.env) = eval o X.env := by rfl)
    (hfew : ((backTo cpos (starEach (e :: es) X.env)).all (fun x => !x.1) && (backToKw cpos (keywordEach [] X.env)).all (fun x => x.1.isSome)
      && decide ((e :: es).length + ([] : List Keyword).length + (if ([] : List Keyword).isEmpty then 0 else 1) < 30)) = true := by rfl)
    (hline : (apos.endLine == cpos.line) = true := by rfl) (hs : starEach (e :: es) X.env = (false, eval e X.env) :: starEach es X.env := by rfl) (hplain : (backTo cpos (starEach es X.env)).any (·.1) = false := by rfl) :
    SE X G W (.Call (.Attribute o "index" apos) (e :: es) [] cpos) (tmE fo fr) :=
  pe_imp (pe_tm PySem.F.plainAttrs_tuple PySem.F.slot_tuple_index PySem.F.type_tuple_index mt_tup_index ho ha hbase hfew hline hs hplain) fun σ H Q ⟨σd, S, μ, a0, h⟩ => by
    refine rdE_bind (k := fun σ x => isFt x >>= fun _ => fr σ >>= fun xs => tindF x xs) a0 h fun d S1 μ1 H1 v s a1 r p => ?_
    have p := Post.bind (k := fun _ => fr σd >>= fun xs => tindF d xs) p
    unfold isFt at p
    cases d with
    | ft ys =>
      have p := Post.here (W := W) a1.lnk p
      obtain ⟨a, vs, od, rfl, no, h1, h2, h3⟩ := r
      refine ⟨⟨a, od, vs, rfl, h1, h2⟩, rdA_bind (k := fun _ xs => tindF (.ft ys) xs) a1 p fun ds S2 μ2 H2 ws s2 a2 rs p => ?_⟩
      unfold tindF at p
      match ds, rs, p with
      | [d], rs, p =>
        obtain ⟨w, rfl, rw'⟩ := rvs1 rs
        dsimp only at p
        cases e0 : strD d with
        | none => rw [e0] at p; exact p.elim
        | some z =>
        rw [e0] at p
        dsimp only at p
        cases e1 : ys.mapM strD with
        | none => rw [e1] at p; exact p.elim
        | some ss =>
          rw [e1] at p
          dsimp only at p
          cases e2 : ss.findIdx? fun s => decide (s = z) with
          | none => rw [e2] at p; exact p.elim
          | some j =>
            rw [e2] at p
            have h4 := s2.grow.ext.frz _ _ _ h1
            rw [strDs_ok h3 e1] at h4
            obtain ⟨hj, hy, hno⟩ := List.findIdx?_eq_some_iff_getElem.mp e2
            have hy := of_decide_eq_true hy
            refine ⟨a, ss, z, j, rfl, by rw [strD_ok rw' e0], .inl (.inr ⟨od, h4⟩), by rw [List.getElem?_eq_getElem hj, hy], fun m hm e => ?_, (Post.here (W := W) a2.lnk p) _ rfl⟩
            have hm2 : m < ss.length := Nat.lt_trans hm hj
            rw [List.getElem?_eq_getElem hm2] at e
            have := hno m hm
            rw [decide_eq_true (Option.some.inj e)] at this
            exact absurd this (by decide)
      | [], _, p => exact p.elim
      | _ :: _ :: _, _, p => exact p.elim
    | _ => exact p.elim
end
end Fd

set_option Elab.async false
set_option linter.all false
set_option maxRecDepth 100000
set_option maxHeartbeats 1000000
namespace Fd
open PySem PySem.Spec PyProof.Rows L2 LamX
variable {S : Sto} {E : Nat → Sto → Prop} {Q : D → Sto → Prop} {σ : En}
def diceAt (S : Sto) (l : Nat) : Prop := S.locked l = false ∧ ∃ a b c : Int, S.objs[l]? = some (.lst [.int a, .int b, .int c])
theorem diceAt.put {S : Sto} {l : Nat} (h : diceAt S l) (a b c : Int) : diceAt (S.put l (.lst [.int a, .int b, .int c])) l := by
  obtain ⟨h1, x, y, z, h2⟩ := h
  exact ⟨h1, a, b, c, put_at (List.getElem?_eq_some_iff.mp h2).1⟩
theorem put_self {S : Sto} {l : Nat} {o : SO} (h : S.objs[l]? = some o) : S.put l o = S := by
  obtain ⟨h1, h2⟩ := List.getElem?_eq_some_iff.mp h
  show (⟨S.objs.set l o, S.lck⟩ : Sto) = S
  rw [← h2, List.set_getElem_self]
theorem powI_18 {S : Sto} {Q : D → Sto → Prop} {E : Nat → Sto → Prop} : wp (powI (.int 10) (.int 18)) S Q E = Q (.int 1000000000000000000) S := by
  refine wp_eq ?_
  show (if (decide (-(2 ^ 64) < (10 : Int) ∧ (10 : Int) < 2 ^ 64) && decide ((0 : Int) ≤ 18) && decide ((18 : Int) ≤ 64)) = true then M.pure (D.int ((10 : Int) ^ (18 : Int).toNat)) else M.stk : M D) S = _
  rw [if_pos (by decide)]
  show Fd.R.ok (D.int ((10 : Int) ^ (18 : Int).toNat)) S = _
  rw [show ((10 : Int) ^ (18 : Int).toNat) = 1000000000000000000 by decide +kernel]
theorem newL_wp {S : Sto} {Q : D → Sto → Prop} {E : Nat → Sto → Prop} (ds : List D) : wp (newL ds) S Q E = Q (.ref S.n) (S.push (.lst ds)) := rfl
theorem le3 (a b c : D) : ([a, b, c] : List D).length ≤ sizeLine := by show 3 ≤ sizeLine; decide
theorem cut1_nil : Fd.cutD [] none (some 1) = [] := rfl
theorem cut1_cons (a : D) (r : List D) : Fd.cutD (a :: r) none (some 1) = [a] := by
  unfold Fd.cutD
  have h1 : HT.sIx (a :: r).length 0 none = 0 := rfl
  have h2 : HT.sIx (a :: r).length (a :: r).length (some 1) = 1 := by
    unfold HT.sIx
    simp
  rw [h1, h2]
  rfl
theorem eqNil_wp {S : Sto} {Q : D → Sto → Prop} {E : Nat → Sto → Prop} {ds : List D} {ps : List PyData} (hp : ds.mapM (toPy S 11) = some ps) : wp (eqA (.lst ds) (.lst [])) S Q E = Q (.bl ds.isEmpty) S := by
  refine wp_eq ?_
  show (match py S (.lst ds), py S (.lst []) with
    | some a, some b => Fd.R.ok (D.bl (PyData.eqv a b)) S
    | _, _ => .stk) = _
  have h1 : py S (.lst ds) = some (.list ps) := by
    show (ds.mapM (toPy S 11)).map PyData.list = _
    rw [hp]
    rfl
  have h2 : py S (.lst []) = some (.list []) := rfl
  rw [h1, h2]
  show Fd.R.ok (D.bl (PyData.eqv (.list ps) (.list []))) S = _
  have h3 : PyData.eqv (.list ps) (.list []) = ds.isEmpty := by
    cases ds with
    | nil =>
      cases hp
      simp [PyData.eqv, PyData.eqvAll]
    | cons d ds =>
      cases ps with
      | nil =>
        rw [List.mapM_cons] at hp
        cases e1 : toPy S 11 d with
        | none => rw [e1] at hp; cases hp
        | some p =>
          rw [e1] at hp
          cases e2 : ds.mapM (toPy S 11) with
          | none => rw [e2] at hp; cases hp
          | some p => rw [e2] at hp; cases hp
      | cons p ps => simp [PyData.eqv, PyData.eqvAll]
  rw [h3]
theorem mapM_ints (S : Sto) (n : Nat) : ∀ l : List Int, (l.map D.int).mapM (toPy S (n + 1)) = some (l.map PyData.int)
  | [] => rfl
  | i :: l => by
    rw [List.map_cons, List.mapM_cons, mapM_ints S n l]
    rfl
theorem slice1_wp {S : Sto} {Q : D → Sto → Prop} {E : Nat → Sto → Prop} {d : D} {ns : List Int} (ht : tupD d = none) (hk : seqK S d = some (ns.map .int)) : wp (sliceC d none (some 1)) S Q E = Q (.lst ((ns.map D.int).take 1)) S := by
  refine wp_eq ?_
  unfold sliceC
  rw [ht, hk]
  cases ns with
  | nil => rfl
  | cons a r => exact congrArg (fun z => Fd.R.ok (D.lst z) S) (cut1_cons _ _)
theorem items_lst {S : Sto} {Q : List D → Sto → Prop} {E : Nat → Sto → Prop} {ds : List D} : wp (itemsOf (.lst ds)) S Q E = Q ds S := rfl
theorem lockQ_lst {α : Type} {S : Sto} {σ : En} {i : Nat} {f : En → M α} {ds : List D} (h : σ[i]? = some (some (.lst ds))) : lockQ (locV i) f σ S = f σ S := by
  unfold lockQ locV
  rw [h]
  rfl
theorem dct_at {S : Sto} {l : Nat} {kvs : List (DK × D)} (h : S.objs[l]? = some (.dct false kvs)) : dctD S (.ref l) = some (false, kvs) := by unfold dctD; simp only [h]
theorem in_wp {S : Sto} {Q : D → Sto → Prop} {E : Nat → Sto → Prop} {l : Nat} {kvs : List (DK × D)} {nm : Str} (h : S.objs[l]? = some (.dct false kvs)) : wp (inO (.str nm) (.ref l)) S Q E = Q (.bl (val kvs (.k (.inr nm))).isSome) S := by
  refine wp_eq ?_
  unfold inO alt2
  simp only [dct_at h, Option.isSome_some, if_true]
  unfold dinO
  simp only [dct_at h]
  show Fd.R.ok (D.bl (true == (val kvs (.k (.inr nm))).isSome)) S = _
  cases (val kvs (.k (.inr nm))).isSome <;> rfl
theorem lenD_wp {S : Sto} {Q : D → Sto → Prop} {E : Nat → Sto → Prop} {l : Nat} {kvs : List (DK × D)} (h : S.objs[l]? = some (.dct false kvs)) : wp (lenC [.ref l]) S Q E = Q (.int kvs.length) S := by
  refine wp_eq ?_
  unfold lenC
  have h1 : itA S (.ref l) = none := by unfold itA tupD seqL; simp only [h]; rfl
  simp only [h1, dct_at h]
theorem setD_wp {S : Sto} {Q : Unit → Sto → Prop} {E : Nat → Sto → Prop} {l : Nat} {kvs : List (DK × D)} {nm : Str} {v : D} (h : S.objs[l]? = some (.dct false kvs)) (hl : S.locked l = false) (hz : kvs.length < sizeLine) : wp (setO (.ref l) (.str nm) v) S Q E = Q () (S.put l (.dct false (put kvs (.k (.inr nm)) v))) := by
  refine wp_eq ?_
  unfold setO
  simp only [hl, h, Bool.false_eq_true, if_false]
  show (match keyD false (D.str nm) with
    | some k => if kvs.length < sizeLine then Fd.R.ok () (S.put l (.dct false (put kvs k v))) else .stk
    | none => .stk) = _
  show (if kvs.length < sizeLine then Fd.R.ok () (S.put l (.dct false (put kvs (.k (.inr nm)) v))) else .stk) = _
  rw [if_pos hz]
theorem setF_wp {S : Sto} {Q : Unit → Sto → Prop} {E : Nat → Sto → Prop} {l : Nat} {fs : List (Str × D)} {f : Str} {d : D} (h : S.objs[l]? = some (.ins 1 fs)) (hl : S.locked l = false) (hz : fs.length < 1000) : wp (setFld 1 f (.ref l) d) S Q E = Q () (S.put l (.ins 1 (putFd f d fs))) := by
  refine wp_eq ?_
  unfold setFld getF
  simp only [h, if_true]
  rw [if_pos ⟨hz, hl⟩]
theorem newD_wp {S : Sto} {Q : D → Sto → Prop} {E : Nat → Sto → Prop} : wp (newD false) S Q E = Q (.ref S.n) (S.push (.dct false [])) := rfl
theorem lockQ_wp {α : Type} {g : En → Sto → Option Nat} {f : En → M α} {σ : En} {S : Sto} {Q : α → Sto → Prop} {E : Nat → Sto → Prop} {l : Nat} {o : SO} (hg : g σ S = some l) (hl : S.locked l = false) (ho : S.objs[l]? = some o) (hc : isCont o = true)
    (h : wp (f σ) { S with lck := l :: S.lck } (fun a S' => S'.lck = l :: S.lck ∧ Q a { S' with lck := S.lck }) fun _ _ => False) : wp (lockQ g f σ) S Q E := by
  unfold wp at h ⊢
  unfold lockQ lockM
  simp only [hg, hl, ho, hc, Bool.false_eq_true, if_false, if_true]
  cases e : f σ { S with lck := l :: S.lck } with
  | stk => rw [e] at h; exact h.elim
  | exc c S' => rw [e] at h; exact h.elim
  | ok a S' =>
    rw [e] at h
    simp only [h.1, if_true]
    exact h.2
theorem sum_nonneg : ∀ (l : List Int), (∀ x ∈ l, 0 ≤ x) → 0 ≤ l.sum
  | [], _ => Int.le_refl _
  | x :: l, h => by
    rw [List.sum_cons]
    have := h x List.mem_cons_self
    have := sum_nonneg l fun y hy => h y (List.mem_cons_of_mem _ hy)
    omega
theorem wp_genSum {bod : D → M (Option D)} {S : Sto} {Q : D → Sto → Prop} {E : Nat → Sto → Prop} (f : D → Option Int) : ∀ (ds ys : List D), (∀ d ∈ ds, bod d S = .ok ((f d).map D.int) S) → (∀ d ∈ ds, ∀ x, f d = some x → 0 ≤ x) → 0 ≤ (ys.map dI).sum → (ys.map dI).sum + (ds.filterMap f).sum < 2 ^ 63 →
    Q (.int ((ys.map dI).sum + (ds.filterMap f).sum)) S → wp (genL bod chkSum finSum ys ds) S Q E
  | [], ys, _, _, _, _, h => by
    rw [List.filterMap_nil, List.sum_nil, Int.add_zero] at h
    exact h
  | d :: ds, ys, hb, hp, h0, hs, h => by
    unfold genL
    rw [wp_bind]
    refine wp_nox (wp_of (hb d List.mem_cons_self) ?_)
    have hb' := fun x hx => hb x (List.mem_cons_of_mem d hx)
    have hp' := fun x hx => hp x (List.mem_cons_of_mem d hx)
    cases ef : f d with
    | none =>
      rw [List.filterMap_cons, ef] at h hs
      exact wp_genSum f ds ys hb' hp' h0 hs h
    | some x =>
      rw [List.filterMap_cons, ef] at h hs
      simp only [List.sum_cons] at h hs
      have hx := hp d List.mem_cons_self x ef
      have hr : 0 ≤ (ds.filterMap f).sum := sum_nonneg _ fun y hy => by
        obtain ⟨z, hz, ez⟩ := List.mem_filterMap.mp hy
        exact hp' z hz y ez
      have hc : chkSum ys (.int x) = some none := by
        show (if (inLong x && inLong ((ys.map dI).sum + x)) = true then some none else none) = _
        rw [if_pos]
        unfold inLong
        simp only [Bool.and_eq_true, decide_eq_true_eq]
        refine ⟨⟨?_, ?_⟩, ?_, ?_⟩ <;> omega
      simp only [Option.map_some, hc]
      have e : ((ys ++ [D.int x]).map dI).sum = (ys.map dI).sum + x := by
        rw [List.map_append, List.sum_append]
        show _ + (x + 0) = _
        omega
      refine wp_genSum f ds (ys ++ [.int x]) hb' hp' (by rw [e]; omega) (by rw [e]; omega) ?_
      rw [e, Int.add_assoc]
      exact h
theorem eqv_str (a b : Str) : PyData.eqv (.str a) (.str b) = decide (a = b) := by
  unfold PyData.eqv
  first | rfl | simp | (by_cases h : a = b <;> simp [h])
theorem eqS_wp {S : Sto} {Q : D → Sto → Prop} {E : Nat → Sto → Prop} (a b : Str) : wp (eqA (.str a) (.str b)) S Q E = Q (.bl (decide (a = b))) S := by
  refine wp_eq ?_
  show Fd.R.ok (D.bl (PyData.eqv (.str a) (.str b))) S = _
  rw [eqv_str]
theorem neS_wp {S : Sto} {Q : D → Sto → Prop} {E : Nat → Sto → Prop} (a b : Str) : wp (neA (.str a) (.str b)) S Q E = Q (.bl (!decide (a = b))) S := by
  refine wp_eq ?_
  show Fd.R.ok (D.bl (!PyData.eqv (.str a) (.str b))) S = _
  rw [eqv_str]
theorem run_of {α : Type} {m : M α} {S S' : Sto} {a : α} (h : ∀ (Q : α → Sto → Prop) (E : Nat → Sto → Prop), Q a S' → wp m S Q E) : m S = .ok a S' := by
  obtain ⟨b, S1, e, h1⟩ := wp_out (h (fun x y => x = a ∧ y = S') (fun _ _ => False) ⟨rfl, rfl⟩)
  rw [e, h1.1, h1.2]
theorem itRef_wp {S : Sto} {Q : List D → Sto → Prop} {E : Nat → Sto → Prop} {l : Nat} {ds : List D} (h : S.objs[l]? = some (.lst ds)) (hl : S.locked l = true) : wp (itemsOf (.ref l)) S Q E = Q ds S := by
  refine wp_eq ?_
  unfold itemsOf
  simp only [hl, h, if_true]
theorem val_none_any {kvs : List (DK × D)} {k : DK} (h : val kvs k = none) : (kvs.any fun p => decide (p.1 = k)) = false := by
  unfold val at h
  cases e : kvs.find? fun p => decide (p.1 = k) with
  | some p => rw [e] at h; cases h
  | none =>
    rw [List.find?_eq_none] at e
    rw [List.any_eq_false]
    exact e
theorem put_new {kvs : List (DK × D)} {k : DK} {v : D} (h : val kvs k = none) : Fd.put kvs k v = kvs ++ [(k, v)] := by
  unfold Fd.put
  rw [val_none_any h]
  rfl
theorem item_wp {S : Sto} {Q : D → Sto → Prop} {E : Nat → Sto → Prop} {l : Nat} {kvs : List (DK × D)} {nm : Str} {v : D} (h : S.objs[l]? = some (.dct false kvs)) (hv : val kvs (.k (.inr nm)) = some v) : wp (itemO (.ref l) (.str nm)) S Q E = Q v S := by
  refine wp_eq ?_
  unfold itemO alt2
  simp only [dct_at h, Option.isSome_some, if_true]
  unfold dgetO
  simp only [dct_at h]
  show (match val kvs (.k (.inr nm)) with
    | some d => Fd.R.ok d S
    | none => .stk) = _
  rw [hv]
theorem itemV_wp {S : Sto} {Q : D → Sto → Prop} {E : Nat → Sto → Prop} {kvs : List (DK × D)} {nm : Str} {v : D} (hv : val kvs (.k (.inr nm)) = some v) : wp (itemO (.dct false kvs) (.str nm)) S Q E = Q v S := by
  refine wp_eq ?_
  show (match val kvs (.k (.inr nm)) with
    | some d => Fd.R.ok d S
    | none => .stk) = _
  rw [hv]
theorem inV_wp {S : Sto} {Q : D → Sto → Prop} {E : Nat → Sto → Prop} {kvs : List (DK × D)} {nm : Str} : wp (notinO (.str nm) (.dct false kvs)) S Q E = Q (.bl (!(val kvs (.k (.inr nm))).isSome)) S := by
  refine wp_eq ?_
  show Fd.R.ok (D.bl (false == (val kvs (.k (.inr nm))).isSome)) S = _
  cases (val kvs (.k (.inr nm))).isSome <;> rfl
theorem val_of_nodup : ∀ {kvs : List (DK × D)} {k : DK} {v : D}, (kvs.map (·.1)).Nodup → (k, v) ∈ kvs → val kvs k = some v
  | (k0, v0) :: r, k, v, hn, hm => by
    rw [List.map_cons, List.nodup_cons] at hn
    unfold val
    rw [List.find?_cons]
    rcases List.mem_cons.mp hm with e | hm'
    · cases e
      simp
    · have hne : ¬ k0 = k := fun e => hn.1 (by rw [e]; exact List.mem_map.mpr ⟨_, hm', rfl⟩)
      simp only [hne, decide_false]
      exact val_of_nodup hn.2 hm'
def pickP (a y : D × PyData) : D × PyData := if PySem.W.dataLt y.2 a.2 = true then y else a
theorem pick_assoc (x y m : D × PyData) : pickP (pickP x y) m = pickP x (pickP y m) := by
  have tr : ∀ a b c : PyData, PySem.W.dataLt a b = true → PySem.W.dataLt b c = true → PySem.W.dataLt a c = true := fun a b c h1 h2 => PyProof.Rows.lex_trans (O := PyProof.Rows.itemOrd) _ _ _ h1 h2
  have ng : ∀ a b c : PyData, PySem.W.dataLt a c = true → PySem.W.dataLt a b = true ∨ PySem.W.dataLt b c = true := fun a b c h => PyProof.Rows.lex_negTrans (O := PyProof.Rows.itemOrd) _ _ _ h
  unfold pickP
  by_cases h1 : PySem.W.dataLt y.2 x.2 = true
  · by_cases h2 : PySem.W.dataLt m.2 y.2 = true
    · simp [h1, h2, tr _ _ _ h2 h1]
    · simp [h1, h2]
  · by_cases h2 : PySem.W.dataLt m.2 y.2 = true
    · simp [h1, h2]
    · by_cases h3 : PySem.W.dataLt m.2 x.2 = true
      · rcases ng _ y.2 _ h3 with z | z
        · exact absurd z h2
        · exact absurd z h1
      · simp [h1, h2, h3]
theorem head_isort : ∀ (l : List (D × PyData)) (x : D × PyData), (isort leP (x :: l)).head? = some (l.foldl pickP x)
  | [], x => rfl
  | y :: l, x => by
    have ih := head_isort l y
    show (insS leP x (isort leP (y :: l))).head? = _
    have fold : ∀ (l : List (D × PyData)) (x y : D × PyData), l.foldl pickP (pickP x y) = pickP x (l.foldl pickP y) := by
      intro l
      induction l with
      | nil => intro x y; rfl
      | cons z l ihl =>
        intro x y
        rw [List.foldl_cons, List.foldl_cons, pick_assoc, ihl]
    rw [List.foldl_cons, fold]
    cases e : isort leP (y :: l) with
    | nil => rw [e] at ih; cases ih
    | cons b t =>
      rw [e] at ih
      have hb : b = l.foldl pickP y := Option.some.inj ih
      rw [← hb]
      unfold insS leP pickP
      cases PySem.W.dataLt b.2 x.2 <;> rfl
theorem best_head (l : List (D × PyData)) : bestP PySem.W.dataLt l = (sortP l).head? := by
  cases l with
  | nil => rfl
  | cons x xs =>
    unfold sortP
    rw [List.head?_map, head_isort]
    rfl
theorem isort_len {α : Type} (le : α → α → Bool) : ∀ l : List α, (isort le l).length = l.length
  | [] => rfl
  | a :: l => by
    have ins : ∀ (b : α) (m : List α), (insS le b m).length = m.length + 1 := by
      intro b m
      induction m with
      | nil => rfl
      | cons c m ih =>
        unfold insS
        by_cases h : le b c = true
        · rw [if_pos h]; rfl
        · rw [if_neg h, List.length_cons, ih]; rfl
    show (insS le a (isort le l)).length = _
    rw [ins, isort_len le l]
    rfl
def kvOf (p : Str × Int) : DK × D := (.k (.inr p.1), .int p.2)
theorem val_bs {bs : List (Str × Int)} {p : Str × Int} (hn : (bs.map (·.1)).Nodup) (hm : p ∈ bs) : val (bs.map kvOf) (.k (.inr p.1)) = some (.int p.2) := by
  refine val_of_nodup ?_ (List.mem_map.mpr ⟨p, hm, rfl⟩)
  rw [List.map_map]
  have e : bs.map ((·.1) ∘ kvOf) = (bs.map (·.1)).map fun x => DK.k (.inr x) := by rw [List.map_map]; rfl
  rw [e]
  exact (List.pairwise_map.mpr (hn.imp fun h z => h (by cases z; rfl)))
theorem val_bs_none {bs : List (Str × Int)} {nm : Str} (h : nm ∉ bs.map (·.1)) : val (bs.map kvOf) (.k (.inr nm)) = none := by
  unfold val
  rw [Option.map_eq_none_iff, List.find?_eq_none]
  intro q hq
  obtain ⟨p, hp, rfl⟩ := List.mem_map.mp hq
  intro z
  have z := of_decide_eq_true z
  have z : DK.k (.inr p.1) = DK.k (.inr nm) := z
  cases z
  exact h (List.mem_map.mpr ⟨p, hp, rfl⟩)
theorem itDct_wp {S : Sto} {Q : List D → Sto → Prop} {E : Nat → Sto → Prop} {l : Nat} {kvs : List (DK × D)} (h : S.objs[l]? = some (.dct false kvs)) (hl : S.locked l = true) : wp (itemsOf (.ref l)) S Q E = Q (kvs.map fun p => dkD p.1) S := by
  refine wp_eq ?_
  unfold itemsOf
  simp only [hl, h, if_true]
theorem tup2_wp {S : Sto} {Q : D → Sto → Prop} {E : Nat → Sto → Prop} {fa fb : En → M D} {σ : En} : wp (tupV (consA fa (consA fb nilA)) σ) S Q E = wp (fa σ) S (fun a S1 => wp (fb σ) S1 (fun b S2 => Q (.tup [a, b]) S2) E) E := by
  simp only [tupV, consA, nilA, wp_bind, wp_pure, wp_ite, List.length_cons, List.length_nil, show (0 + 1 + 1 ≤ sizeLine) = True from eq_true (by decide), if_true]
theorem insS_mem {α : Type} (le : α → α → Bool) (a x : α) : ∀ l : List α, x ∈ insS le a l ↔ x = a ∨ x ∈ l
  | [] => by show x ∈ [a] ↔ _; simp
  | b :: l => by
    unfold insS
    by_cases h : le a b = true
    · rw [if_pos h]; simp
    · rw [if_neg h, List.mem_cons, insS_mem le a x l, List.mem_cons]
      constructor
      · rintro (h | h | h)
        · exact .inr (.inl h)
        · exact .inl h
        · exact .inr (.inr h)
      · rintro (h | h | h)
        · exact .inr (.inl h)
        · exact .inl h
        · exact .inr (.inr h)
theorem isort_mem {α : Type} (le : α → α → Bool) (x : α) : ∀ l : List α, x ∈ isort le l ↔ x ∈ l
  | [] => Iff.rfl
  | a :: l => by
    show x ∈ insS le a (isort le l) ↔ _
    rw [insS_mem, isort_mem le x l, List.mem_cons]
theorem sortP_mem {d : D} {z : List (D × PyData)} : d ∈ sortP z ↔ ∃ p, (d, p) ∈ z := by
  unfold sortP
  rw [List.mem_map]
  constructor
  · rintro ⟨⟨a, p⟩, h, rfl⟩
    exact ⟨p, (isort_mem _ _ _).mp h⟩
  · rintro ⟨p, h⟩
    exact ⟨(d, p), (isort_mem _ _ _).mpr h, rfl⟩
theorem zip_self {α β γ : Type} (f : α → β) (g : α → γ) : ∀ l : List α, (l.map f).zip (l.map g) = l.map fun x => (f x, g x)
  | [] => rfl
  | a :: l => by rw [List.map_cons, List.map_cons, List.zip_cons_cons, zip_self f g l, List.map_cons]
theorem lt_of_get {α : Type} {l : List α} {i : Nat} {a : α} (h : l[i]? = some a) : i < l.length := (List.getElem?_eq_some_iff.mp h).1
theorem dget_wp {Q : D → Sto → Prop} {l : Nat} {nm : Str} {v : D} (h : S.objs[l]? = some (.dct false kvs)) (hv : val kvs (.k (.inr nm)) = some v) : wp (dgetO (.ref l) (.str nm)) S Q E = Q v S := by
  refine wp_eq ?_
  unfold dgetO
  simp only [dct_at h]
  show (match val kvs (.k (.inr nm)) with
    | some d => Fd.R.ok d S
    | none => .stk) = _
  rw [hv]
theorem tup3_wp {Q : D → Sto → Prop} {fa fb fc : En → M D} {σ : En} : wp (tupV (consA fa (consA fb (consA fc nilA))) σ) S Q E = wp (fa σ) S (fun a S1 => wp (fb σ) S1 (fun b S2 => wp (fc σ) S2 (fun c S3 => Q (.tup [a, b, c]) S3) E) E) E := by
  simp only [tupV, consA, nilA, wp_bind, wp_pure, wp_ite, List.length_cons, List.length_nil, show (0 + 1 + 1 + 1 ≤ sizeLine) = True from eq_true (by decide), if_true]
theorem chkL_wp {Q : Unit → Sto → Prop} {l : Nat} {ds : List D} (h : S.objs[l]? = some (.lst ds)) (hl : S.locked l = false) : wp (chkTy "list" (.ref l)) S Q E = Q () S := by
  refine wp_eq ?_
  unfold chkTy
  rw [if_pos]
  unfold tyC seqL
  simp only [hl, h, Bool.false_eq_true, if_false]
  rfl
theorem chkD_wp {Q : Unit → Sto → Prop} {l : Nat} (h : S.objs[l]? = some (.dct false kvs)) (hl : S.locked l = false) : wp (chkTy "dict" (.ref l)) S Q E = Q () S := by
  refine wp_eq ?_
  unfold chkTy
  rw [if_pos]
  unfold tyC seqL
  simp only [hl, h, Bool.false_eq_true, if_false, dct_at h]
  rfl
theorem app_wp {Q : D → Sto → Prop} {l : Nat} {ds : List D} {y : D} (h : S.objs[l]? = some (.lst ds)) (hl : S.locked l = false) (hz : ds.length < sizeLine) : wp (appM (.ref l) [y]) S Q E = Q .non (S.put l (.lst (ds ++ [y]))) := by
  refine wp_eq ?_
  unfold appM ownL
  simp only [hl, h, Bool.false_eq_true, if_false]
  rw [if_pos hz]
theorem ix1_wp {Q : D → Sto → Prop} (a b : D) : wp (itemO (.tup [a, b]) (.int 1)) S Q E = Q b S := wp_eq rfl
theorem ix0_wp {Q : D → Sto → Prop} (a b : D) : wp (itemO (.tup [a, b]) (.int 0)) S Q E = Q a S := wp_eq rfl
theorem key_eq (a b : Str) : (DK.k (.inr a) = DK.k (.inr b)) = (a = b) := by
  refine propext ⟨fun h => ?_, fun h => by rw [h]⟩
  cases h
  rfl
theorem told_wp {okc : Nat → Bool} {ret : Str} {fb : En → M D} : wp (toldE okc ret fb σ) S Q E = wp (fb σ) S Q fun c S' => if okc c = true then Q (.str ret) S' else False := by
  unfold wp toldE
  cases fb σ S with
  | ok d S' => rfl
  | stk => rfl
  | exc c S' =>
    simp only
    by_cases h : okc c = true
    · rw [if_pos h, if_pos h]
    · rw [if_neg h, if_neg h]
theorem eqB_wp (a b : Bool) : wp (eqA (.bl a) (.bl b)) S Q E = Q (.bl (a == b)) S := by
  refine wp_eq ?_
  show Fd.R.ok (D.bl (PyData.eqv (.bool a) (.bool b))) S = _
  cases a <;> cases b <;> first | rfl | simp [PyData.eqv]
theorem eqNS_wp (b : Str) : wp (eqA .non (.str b)) S Q E = Q (.bl false) S := by
  refine wp_eq ?_
  show Fd.R.ok (D.bl (PyData.eqv .none (.str b))) S = _
  first | rfl | simp [PyData.eqv]
theorem addS_wp {a b : Str} (h : a.length + b.length ≤ sizeLine) : wp (addA (.str a) (.str b)) S Q E = Q (.str (a ++ b)) S := by
  refine wp_eq ?_
  show (if a.length + b.length ≤ sizeLine then M.pure (D.str (a ++ b)) else M.stk : M D) S = _
  rw [if_pos h]
  rfl
def nmOf (c : Str) (i : Int) : Str := c ++ toString i
theorem str_wp {i : Int} (h0 : 0 ≤ i) (h1 : i < 1000) : wp (strC [.int i]) S Q E = Q (.str (toString i)) S := by
  refine wp_eq ?_
  show (if i.natAbs.log2 < 1920 then M.pure (D.str (toString i)) else M.stk : M D) S = _
  rw [if_pos]
  · rfl
  · have h2 : i.natAbs < 2 ^ 1920 := Nat.lt_of_lt_of_le (show i.natAbs < 1000 by omega) (by decide +kernel)
    by_cases h3 : i.natAbs = 0
    · rw [h3]; decide
    · exact (Nat.log2_lt h3).mpr h2
theorem addN_wp {c : Str} {i : Int} (h0 : 0 ≤ i) (h1 : i < 8) (hc : c.length ≤ 10) : wp (addA (.str c) (.str (toString i))) S Q E = Q (.str (nmOf c i)) S := by
  refine addS_wp ?_
  have : (toString i : Str).length ≤ 1 := by
    have h : i = 0 ∨ i = 1 ∨ i = 2 ∨ i = 3 ∨ i = 4 ∨ i = 5 ∨ i = 6 ∨ i = 7 := by omega
    rcases h with rfl | rfl | rfl | rfl | rfl | rfl | rfl | rfl <;> decide +kernel
  have : 11 ≤ sizeLine := by decide
  omega
theorem nm_inj (c : Str) : ∀ i j : Int, 0 ≤ i → i < 8 → 0 ≤ j → j < 8 → (toString i : Str) = toString j → i = j := by
  intro i j h1 h2 h3 h4 e
  have h : i = 0 ∨ i = 1 ∨ i = 2 ∨ i = 3 ∨ i = 4 ∨ i = 5 ∨ i = 6 ∨ i = 7 := by omega
  have h' : j = 0 ∨ j = 1 ∨ j = 2 ∨ j = 3 ∨ j = 4 ∨ j = 5 ∨ j = 6 ∨ j = 7 := by omega
  rcases h with rfl | rfl | rfl | rfl | rfl | rfl | rfl | rfl <;> rcases h' with rfl | rfl | rfl | rfl | rfl | rfl | rfl | rfl <;> first | rfl | exact absurd e (by decide +kernel)
theorem addL_wp (xs ys : List D) (h : xs.length + ys.length ≤ sizeLine) : wp (addA (.lst xs) (.lst ys)) S Q E = Q (.lst (xs ++ ys)) S := by
  refine wp_eq ?_
  show (if xs.length + ys.length ≤ sizeLine then Fd.R.ok (D.lst (xs ++ ys)) S else .stk) = _
  rw [if_pos h]
theorem mulB_wp (i : Int) (b : Bool) : wp (mulA (.int i) (.int (if b = true then 1 else 0))) S Q E = Q (.int (if b = true then i else 0)) S := by
  rw [wp_mulI (.inr (by cases b <;> decide))]
  cases b
  · show Q (.int (i * 0)) S = _
    rw [Int.mul_zero]; rfl
  · show Q (.int (i * 1)) S = _
    rw [Int.mul_one]; rfl
theorem lst1_wp {fa : En → M D} : wp (lstV (consA fa nilA) σ) S Q E = wp (fa σ) S (fun a S1 => Q (.lst [a]) S1) E := by
  simp only [lstV, consA, nilA, wp_bind, wp_pure, wp_ite, List.length_cons, List.length_nil, show (0 + 1 ≤ sizeLine) = True from eq_true (by decide), if_true]
theorem lst0_wp : wp (lstV nilA σ) S Q E = Q (.lst []) S := by
  simp only [lstV, nilA, wp_bind, wp_pure, wp_ite, List.length_nil, show (0 ≤ sizeLine) = True from eq_true (Nat.zero_le _), if_true]
def pairR (p : Str × Int) : D := .tup [.str p.1, .int p.2]
theorem itemsE_wp {fe : En → M D} {bs : List (Str × Int)} (h : fe σ S = .ok (.dct false (bs.map kvOf)) S) : wp (itemsE fe σ) S Q E = Q (.lst (bs.map pairR)) S := by
  unfold itemsE
  rw [wp_bind, wp_eq h]
  refine wp_eq ?_
  show Fd.R.ok (D.lst (itemsD (bs.map kvOf))) S = _
  unfold itemsD
  rw [List.map_map]
  rfl
theorem mapM_pairs : ∀ bs : List (Str × Int), (bs.map pairR).mapM pairD = some (bs.map kvOf)
  | [] => rfl
  | p :: bs => by
    rw [List.map_cons, List.mapM_cons, mapM_pairs bs]
    rfl
theorem val_app_none {acc : List (DK × D)} {k : DK} {v : D} (hn : k ∉ acc.map (·.1)) : val acc k = none := by
  unfold val
  rw [Option.map_eq_none_iff, List.find?_eq_none]
  intro q hq z
  have z : q.1 = k := of_decide_eq_true z
  exact hn (by rw [← z]; exact List.mem_map.mpr ⟨q, hq, rfl⟩)
theorem merge_nodup : ∀ (more acc : List (DK × D)), ((acc ++ more).map (·.1)).Nodup → mergeD acc more = acc ++ more
  | [], acc, _ => by rw [List.append_nil]; rfl
  | (k, v) :: more, acc, h => by
    show mergeD (Fd.put acc k v) more = _
    have hk : k ∉ acc.map (·.1) := by
      rw [List.map_append, List.map_cons] at h
      have h2 := (List.nodup_append.mp h).2.2
      intro hm
      exact h2 _ hm _ List.mem_cons_self rfl
    rw [put_new (val_app_none (v := v) hk), merge_nodup more (acc ++ [(k, v)]) (by rw [List.append_assoc]; exact h), List.append_assoc]
    rfl
theorem kv_nodup {bs : List (Str × Int)} (h : (bs.map (·.1)).Nodup) : ((bs.map kvOf).map (·.1)).Nodup := by
  rw [List.map_map]
  have e : bs.map ((·.1) ∘ kvOf) = (bs.map (·.1)).map fun x => DK.k (.inr x) := by rw [List.map_map]; rfl
  rw [e]
  exact List.pairwise_map.mpr (h.imp fun h z => h (by cases z; rfl))
theorem dct_made {bs : List (Str × Int)} (hn : (bs.map (·.1)).Nodup) : dictL S (.lst (bs.map pairR)) = some (bs.map kvOf) := by
  show ((bs.map pairR).mapM pairD).map (mergeD []) = _
  rw [mapM_pairs]
  show some (mergeD [] (bs.map kvOf)) = _
  rw [merge_nodup _ _ (by rw [List.nil_append]; exact kv_nodup hn), List.nil_append]
theorem dictV1_wp {fe : En → M D} (k : wp (fe σ) S (fun d S1 => match dictL S1 d with
    | some kvs => Q (.dct false kvs) S1
    | none => False) E) : wp (dictV (consA fe nilA) σ) S Q E := by
  unfold dictV
  rw [wp_bind]
  simp only [consA, nilA, wp_bind, wp_pure]
  refine wp_mono k (fun d S1 h => ?_) fun _ _ z => z
  unfold wp
  simp only
  cases e : dictL S1 d with
  | none => rw [e] at h; exact h
  | some kvs => rw [e] at h; exact h
theorem eqvAll_refl : ∀ {ps : List PyData}, (∀ p ∈ ps, PyData.eqv p p = true) → PyData.eqvAll ps ps = true
  | [], _ => by simp [PyData.eqvAll]
  | p :: ps, h => by
    have h1 := h p List.mem_cons_self
    have h2 := eqvAll_refl fun q hq => h q (List.mem_cons_of_mem _ hq)
    simp [PyData.eqvAll, h1, h2]
theorem eqvL_refl {ps : List PyData} (h : ∀ p ∈ ps, PyData.eqv p p = true) : PyData.eqv (.list ps) (.list ps) = true := by
  have h2 := eqvAll_refl h
  simp [PyData.eqv, h2]
theorem eqvT_refl {ps : List PyData} (h : ∀ p ∈ ps, PyData.eqv p p = true) : PyData.eqv (.tuple ps) (.tuple ps) = true := by
  have h2 := eqvAll_refl h
  simp [PyData.eqv, h2]
theorem eqK_self {bs : List (Str × Int)} (hn : (bs.map (·.1)).Nodup) : ∀ r : List (Str × Int), (∀ p ∈ r, p ∈ bs) → eqK S (bs.map kvOf) (r.map kvOf) = some true
  | [], _ => rfl
  | p :: r, h => by
    have h1 := eqK_self hn r fun q hq => h q (List.mem_cons_of_mem _ hq)
    have h2 := val_bs hn (h p List.mem_cons_self)
    rw [List.map_cons]
    show (match val (bs.map kvOf) (.k (.inr p.1)) with
      | none => some false
      | some w => (match py S (.int p.2), py S w, eqK S (bs.map kvOf) (r.map kvOf) with
        | some a, some b, some c => some (PyData.eqv a b && c)
        | _, _, _ => none)) = _
    rw [h2, h1]
    show some (PyData.eqv (.int p.2) (.int p.2) && true) = _
    rw [eqv_int]
    simp
theorem neDct_wp {l : Nat} {bs : List (Str × Int)} (hn : (bs.map (·.1)).Nodup) (h : S.objs[l]? = some (.dct false (bs.map kvOf))) : wp (neA (.ref l) (.dct false (bs.map kvOf))) S Q E = Q (.bl false) S := by
  refine wp_eq ?_
  unfold neA alt2
  simp only [dct_at h, Option.isSome_some, if_true]
  unfold neDO
  have e : eqDct S (.ref l) (.dct false (bs.map kvOf)) = some true := by
    unfold eqDct
    simp only [dct_at h]
    show (if _ then _ else _) = _
    rw [if_pos rfl, eqK_self hn bs fun _ h => h]
  rw [e]
  rfl
theorem neDctV_wp {bs : List (Str × Int)} (hn : (bs.map (·.1)).Nodup) : wp (neA (.dct false (bs.map kvOf)) (.dct false (bs.map kvOf))) S Q E = Q (.bl false) S := by
  refine wp_eq ?_
  show (match eqDct S (.dct false (bs.map kvOf)) (.dct false (bs.map kvOf)) with
    | some b => Fd.R.ok (D.bl (!b)) S
    | none => .stk) = _
  have e : eqDct S (.dct false (bs.map kvOf)) (.dct false (bs.map kvOf)) = some true := by
    show (if _ then _ else _) = _
    rw [if_pos rfl, eqK_self hn bs fun _ h => h]
  rw [e]
  rfl
theorem sumL_wp {xs : List Int} : wp (sumC [.lst (xs.map D.int)]) S Q E = Q (.int xs.sum) S := by
  refine wp_eq ?_
  show (if allInts (xs.map D.int) = true then Fd.R.ok (D.int ((xs.map D.int).map dI).sum) S else .stk) = _
  rw [if_pos]
  · rw [List.map_map]
    show Fd.R.ok (D.int (xs.map fun i => i).sum) S = _
    rw [List.map_id'] 
  · unfold allInts
    rw [List.all_eq_true]
    intro d hd
    obtain ⟨i, _, rfl⟩ := List.mem_map.mp hd
    rfl
theorem lockQ_dct {α : Type} {i : Nat} {f : En → M α} {kvs : List (DK × D)} (h : σ[i]? = some (some (.dct false kvs))) : lockQ (locV i) f σ S = f σ S := by
  unfold lockQ locV
  rw [h]
  rfl
theorem lockL_wp {α : Type} {i : Nat} {f : En → M α} {ds : List D} {Q : α → Sto → Prop} (h : σ[i]? = some (some (.lst ds))) : wp (lockQ (locV i) f σ) S Q E = wp (f σ) S Q E := by
  unfold wp
  rw [lockQ_lst h]
theorem lockD_wp {α : Type} {i : Nat} {f : En → M α} {kvs : List (DK × D)} {Q : α → Sto → Prop} (h : σ[i]? = some (some (.dct false kvs))) : wp (lockQ (locV i) f σ) S Q E = wp (f σ) S Q E := by
  unfold wp
  rw [lockQ_dct h]
theorem lockT_wp {α : Type} {i : Nat} {f : En → M α} {ds : List D} {Q : α → Sto → Prop} (h : σ[i]? = some (some (.tup ds))) : wp (lockQ (locV i) f σ) S Q E = wp (f σ) S Q E := by
  unfold wp lockQ locV
  rw [h]
  rfl
theorem itemsD_wp {kvs : List (DK × D)} {Q : List D → Sto → Prop} : wp (itemsOf (.dct false kvs)) S Q E = Q (kvs.map fun p => dkD p.1) S := rfl
theorem itemsT_wp {ds : List D} {Q : List D → Sto → Prop} : wp (itemsOf (.tup ds)) S Q E = Q ds S := rfl
theorem nodup_le : ∀ (l m : List Str), l.Nodup → (∀ x ∈ l, x ∈ m) → l.length ≤ m.length
  | [], m, _, _ => Nat.zero_le _
  | x :: l, m, hn, hs => by
    rw [List.nodup_cons] at hn
    have h1 := nodup_le l (m.erase x) hn.2 fun y hy => (List.mem_erase_of_ne (fun e => hn.1 (by rw [← e]; exact hy))).mpr (hs y (List.mem_cons_of_mem _ hy))
    have hx := hs x List.mem_cons_self
    rw [List.length_erase_of_mem hx] at h1
    have := List.length_pos_of_mem hx
    rw [List.length_cons]
    omega
theorem sum_le (B : Int) : ∀ l : List Int, (∀ x ∈ l, x ≤ B) → l.sum ≤ B * l.length
  | [], _ => by simp
  | x :: l, h => by
    have h1 := h x List.mem_cons_self
    have h2 := sum_le B l fun y hy => h y (List.mem_cons_of_mem _ hy)
    rw [List.sum_cons, List.length_cons, Int.natCast_succ, Int.mul_add]
    omega
theorem genL_map {α : Type} {bod : D → M (Option D)} {fin : List D → M D} {Q : D → Sto → Prop} (enc : α → D) (f : α → Option D) : ∀ (xs : List α) (ys : List D), (∀ x ∈ xs, bod (enc x) S = .ok (f x) S) → ys.length + xs.length ≤ sizeLine → wp (fin (ys ++ xs.filterMap f)) S Q E → wp (genL bod chkAll fin ys (xs.map enc)) S Q E
  | [], ys, _, _, h => by
    rw [List.filterMap_nil, List.append_nil] at h
    exact h
  | d :: ds, ys, hb, hl, h => by
    rw [List.map_cons]
    unfold genL
    rw [wp_bind]
    have e := hb d List.mem_cons_self
    refine wp_nox (wp_of e ?_)
    rw [List.length_cons] at hl
    cases ef : f d with
    | none =>
      rw [List.filterMap_cons, ef] at h
      exact genL_map enc f ds ys (fun x hx => hb x (List.mem_cons_of_mem _ hx)) (by omega) h
    | some y =>
      rw [List.filterMap_cons, ef] at h
      have hc : chkAll ys y = some none := if_pos (by omega)
      simp only [hc]
      refine genL_map enc f ds (ys ++ [y]) (fun x hx => hb x (List.mem_cons_of_mem _ hx)) (by rw [List.length_append, List.length_singleton]; omega) ?_
      rw [List.append_assoc]
      exact h
theorem genE_wp {α : Type} {fit : En → M (List D)} {vs : List Nat} {g : D → En → M En} {t : En → M Bool} {fe : En → M D} {fin : List D → M D} {Q : D → Sto → Prop} (enc : α → D) (xs : List α) (f : α → Option D) (hit : fit σ S = .ok (xs.map enc) S) (hb : ∀ x ∈ xs, bodG vs g t fe σ (enc x) S = .ok (f x) S) (hl : xs.length ≤ sizeLine)
    (k : wp (fin (xs.filterMap f)) S Q E) : wp (genE fit vs g t fe chkAll fin σ) S Q E := by
  unfold genE
  rw [wp_bind, wp_eq hit]
  exact genL_map enc f xs [] hb (by simpa using hl) k
theorem genE_ok {α : Type} {fit : En → M (List D)} {vs : List Nat} {g : D → En → M En} {t : En → M Bool} {fe : En → M D} (enc : α → D) (xs : List α) (f : α → Option D) (hit : fit σ S = .ok (xs.map enc) S) (hb : ∀ x ∈ xs, bodG vs g t fe σ (enc x) S = .ok (f x) S) (hl : xs.length ≤ sizeLine) : genE fit vs g t fe chkAll finLst σ S = .ok (.lst (xs.filterMap f)) S :=
  run_of fun Q E hq => genE_wp enc xs f hit hb hl hq
theorem filterMap_some {α β : Type} (f : α → β) (xs : List α) : xs.filterMap (fun x => some (f x)) = xs.map f := by
  induction xs with
  | nil => rfl
  | cons x xs ih => rw [List.filterMap_cons, ih]; rfl
theorem filterMap_if {α β : Type} (c : α → Bool) (f : α → β) (xs : List α) : xs.filterMap (fun x => if c x = true then some (f x) else none) = (xs.filter c).map f := by
  induction xs with
  | nil => rfl
  | cons x xs ih =>
    rw [List.filterMap_cons, List.filter_cons]
    by_cases h : c x = true
    · simp only [h, if_true, ih, List.map_cons]
    · simp only [h, if_false, ih]
      rfl
theorem ix2_wp {Q : D → Sto → Prop} (a b c : D) : wp (itemO (.tup [a, b, c]) (.int 2)) S Q E = Q c S := wp_eq rfl
theorem ix1c_wp {Q : D → Sto → Prop} (a b c : D) : wp (itemO (.tup [a, b, c]) (.int 1)) S Q E = Q b S := wp_eq rfl
theorem kv_vals (bs : List (Str × Int)) : (bs.map kvOf).map (·.2) = (bs.map (·.2)).map D.int := by rw [List.map_map, List.map_map]; rfl
theorem ints_all (xs : List Int) : allInts (xs.map D.int) = true := by
  unfold allInts
  rw [List.all_eq_true]
  intro d hd
  obtain ⟨i, _, rfl⟩ := List.mem_map.mp hd
  rfl
theorem ints_dI (xs : List Int) : (xs.map D.int).map dI = xs := by
  rw [List.map_map]
  exact (List.map_congr_left fun _ _ => rfl).trans (List.map_id _)
theorem ixL0_wp {Q : D → Sto → Prop} (a : D) (r : List D) : wp (itemO (.lst (a :: r)) (.int 0)) S Q E = Q a S := by
  refine wp_eq ?_
  show (match atI (a :: r) 0 with
    | some d => Fd.R.ok d S
    | none => .stk) = _
  have : atI (a :: r) 0 = some a := by
    unfold atI ixN
    simp
  rw [this]
def encI (xs : List Int) : D := .tup (xs.map .int)
theorem ixT_wp {Q : D → Sto → Prop} {xs : List Int} {k : Nat} (h : k < xs.length) : wp (itemO (encI xs) (.int (k : Int))) S Q E = Q (.int (xs.getD k 0)) S := by
  refine wp_eq ?_
  show (match atI (xs.map D.int) (k : Int) with
    | some d => Fd.R.ok d S
    | none => .stk) = _
  have e : atI (xs.map D.int) (k : Int) = some (.int (xs.getD k 0)) := by
    have h1 : ixN (xs.map D.int).length (k : Int) = some k := by
      unfold ixN
      rw [List.length_map]
      first
        | (rw [if_pos (by omega)]; simp; done)
        | (simp; omega)
    unfold atI
    rw [h1]
    show (xs.map D.int)[k]? = _
    rw [List.getElem?_map, List.getD_eq_getElem?_getD, List.getElem?_eq_getElem h]
    rfl
  rw [e]
theorem lenT_wp {Q : D → Sto → Prop} (xs : List Int) : wp (lenC [encI xs]) S Q E = Q (.int xs.length) S := by
  refine wp_eq ?_
  have h : lenC [encI xs] S = .ok (.int (xs.map D.int).length) S := rfl
  rw [h, List.length_map]
theorem lenLst_wp {Q : D → Sto → Prop} (xs : List D) : wp (lenC [.lst xs]) S Q E = Q (.int xs.length) S := wp_eq rfl
theorem inT_wp {Q : D → Sto → Prop} (xs : List Int) (k : Int) : wp (inO (.int k) (encI xs)) S Q E = Q (.bl (decide (k ∈ xs))) S := by
  refine wp_eq ?_
  show (match py S (.int k), (py S (encI xs)).bind pyItems with
    | some a, some bs => Fd.R.ok (D.bl (bs.any fun z => PyData.eqv z a)) S
    | _, _ => .stk) = _
  have h : py S (encI xs) = some (.tuple (xs.map .int)) := by
    show ((xs.map D.int).mapM (toPy S 11)).map PyData.tuple = _
    rw [mapM_ints S 10]
    rfl
  rw [h]
  show Fd.R.ok (D.bl ((xs.map PyData.int).any fun z => PyData.eqv z (.int k))) S = _
  congr 2
  rw [Bool.eq_iff_iff, List.any_eq_true, decide_eq_true_eq]
  constructor
  · rintro ⟨z, hz, e⟩
    obtain ⟨i, hi, rfl⟩ := List.mem_map.mp hz
    rw [eqv_int, decide_eq_true_eq] at e
    rw [← e]
    exact hi
  · intro h
    exact ⟨.int k, List.mem_map.mpr ⟨k, h, rfl⟩, by rw [eqv_int]; simp⟩
theorem slT_wp {Q : D → Sto → Prop} (ds : List D) (lo hi : Option Int) : wp (sliceC (.tup ds) lo hi) S Q E = Q (.tup (Fd.cutD ds lo hi)) S := by
  refine wp_eq ?_
  show (if HT.sIx ds.length 0 lo = 0 ∧ HT.sIx ds.length ds.length hi = ds.length then Fd.R.ok (D.tup ds) S else .ok (.tup (Fd.cutD ds lo hi)) S) = _
  by_cases h : HT.sIx ds.length 0 lo = 0 ∧ HT.sIx ds.length ds.length hi = ds.length
  · rw [if_pos h]
    unfold Fd.cutD
    rw [h.1, h.2, List.drop_zero, Nat.sub_zero, List.take_length]
  · rw [if_neg h]
theorem cut_to (ds : List D) {k : Nat} (h : k ≤ ds.length) : Fd.cutD ds none (some (k : Int)) = ds.take k := by
  unfold Fd.cutD
  rw [HT.sIx_none, HT.sIx_nat, List.drop_zero, Nat.sub_zero, Nat.min_eq_left h]
theorem cut_from (ds : List D) {k : Nat} (h : k ≤ ds.length) : Fd.cutD ds (some (k : Int)) none = ds.drop k := by
  unfold Fd.cutD
  rw [HT.sIx_none, HT.sIx_nat, Nat.min_eq_left h]
  exact List.take_of_length_le (by rw [List.length_drop]; exact Nat.le_refl _)
theorem addT_wp {Q : D → Sto → Prop} (xs ys : List D) (h : xs.length + ys.length ≤ sizeLine) : wp (addA (.tup xs) (.tup ys)) S Q E = Q (.tup (xs ++ ys)) S := by
  refine wp_eq ?_
  show (if xs.length + ys.length ≤ sizeLine then M.pure (D.tup (xs ++ ys)) else M.stk : M D) S = _
  rw [if_pos h]
  rfl
theorem tup1_wp {Q : D → Sto → Prop} {fa : En → M D} : wp (tupV (consA fa nilA) σ) S Q E = wp (fa σ) S (fun a S1 => Q (.tup [a]) S1) E := by
  simp only [tupV, consA, nilA, wp_bind, wp_pure, wp_ite, List.length_cons, List.length_nil, show (0 + 1 ≤ sizeLine) = True from eq_true (by decide), if_true]
theorem tup0_wp {Q : D → Sto → Prop} : wp (tupV nilA σ) S Q E = Q (.tup []) S := by
  simp only [tupV, nilA, wp_bind, wp_pure, wp_ite, List.length_nil, show (0 ≤ sizeLine) = True from eq_true (Nat.zero_le _), if_true]
theorem rng_wp {fa : En → M D} {n : Nat} (h : fa σ S = .ok (.int (n : Int)) S) (hn : n ≤ 1000000) : rng1 fa σ S = .ok ((List.range n).map fun (i : Nat) => D.int (i : Int)) S := by
  refine run_of fun Q E hq => ?_
  unfold rng1
  rw [wp_bind, wp_eq h]
  simp only [wp_ite, wp_pure]
  rw [if_pos (by omega)]
  unfold rangeI
  simp only [Int.zero_add, Int.toNat_natCast]
  exact hq
theorem genL_sum {α : Type} {bod : D → M (Option D)} {Q : D → Sto → Prop} (enc : α → D) (f : α → Option Int) : ∀ (xs : List α) (ys : List D), (∀ x ∈ xs, bod (enc x) S = .ok ((f x).map D.int) S) → (∀ x ∈ xs, ∀ i, f x = some i → 0 ≤ i) → 0 ≤ (ys.map dI).sum → (ys.map dI).sum + (xs.filterMap f).sum < 2 ^ 63 →
    Q (.int ((ys.map dI).sum + (xs.filterMap f).sum)) S → wp (genL bod chkSum finSum ys (xs.map enc)) S Q E
  | [], ys, _, _, _, _, h => by
    rw [List.filterMap_nil, List.sum_nil, Int.add_zero] at h
    exact h
  | d :: ds, ys, hb, hp, h0, hs, h => by
    rw [List.map_cons]
    unfold genL
    rw [wp_bind]
    refine wp_nox (wp_of (hb d List.mem_cons_self) ?_)
    have hb' := fun x hx => hb x (List.mem_cons_of_mem d hx)
    have hp' := fun x hx => hp x (List.mem_cons_of_mem d hx)
    cases ef : f d with
    | none =>
      rw [List.filterMap_cons, ef] at h hs
      exact genL_sum enc f ds ys hb' hp' h0 hs h
    | some x =>
      rw [List.filterMap_cons, ef] at h hs
      simp only [List.sum_cons] at h hs
      have hx := hp d List.mem_cons_self x ef
      have hr : 0 ≤ (ds.filterMap f).sum := sum_nonneg _ fun y hy => by
        obtain ⟨z, hz, ez⟩ := List.mem_filterMap.mp hy
        exact hp' z hz y ez
      have hc : chkSum ys (.int x) = some none := by
        show (if (inLong x && inLong ((ys.map dI).sum + x)) = true then some none else none) = _
        rw [if_pos]
        unfold inLong
        simp only [Bool.and_eq_true, decide_eq_true_eq]
        refine ⟨⟨?_, ?_⟩, ?_, ?_⟩ <;> omega
      simp only [Option.map_some, hc]
      have e : ((ys ++ [D.int x]).map dI).sum = (ys.map dI).sum + x := by
        rw [List.map_append, List.sum_append]
        show _ + (x + 0) = _
        omega
      refine genL_sum enc f ds (ys ++ [.int x]) hb' hp' (by rw [e]; omega) (by rw [e]; omega) ?_
      rw [e, Int.add_assoc]
      exact h
theorem genS_ok {α : Type} {fit : En → M (List D)} {vs : List Nat} {g : D → En → M En} {t : En → M Bool} {fe : En → M D} (enc : α → D) (xs : List α) (f : α → Option Int) (hit : fit σ S = .ok (xs.map enc) S) (hb : ∀ x ∈ xs, bodG vs g t fe σ (enc x) S = .ok ((f x).map D.int) S)
    (hp : ∀ x ∈ xs, ∀ i, f x = some i → 0 ≤ i) (hs : (xs.filterMap f).sum < 2 ^ 63) : genE fit vs g t fe chkSum finSum σ S = .ok (.int (xs.filterMap f).sum) S := run_of fun Q E hq => by
  unfold genE
  rw [wp_bind, wp_eq hit]
  refine genL_sum enc f xs [] hb hp (Int.le_refl _) (by simpa using hs) ?_
  simpa using hq
theorem tupLst_wp {Q : D → Sto → Prop} (xs : List Int) : wp (tupC [.lst (xs.map .int)]) S Q E = Q (encI xs) S := wp_eq rfl
theorem itemsL_wp {Q : List D → Sto → Prop} (ds : List D) : wp (itemsOf (.lst ds)) S Q E = Q ds S := rfl
theorem alikeI : ∀ xs ys : List Int, PySem.W.alikeAll (xs.map PyData.int) (ys.map .int) = true
  | [], _ => by simp [PySem.W.alikeAll]
  | _ :: _, [] => by simp [PySem.W.alikeAll]
  | x :: xs, y :: ys => by simp [PySem.W.alikeAll, PySem.W.alike, alikeI xs ys]
theorem eqvI : ∀ xs ys : List Int, PyData.eqvAll (xs.map PyData.int) (ys.map .int) = true → xs = ys
  | [], [], _ => rfl
  | [], _ :: _, h => by simp [PyData.eqvAll] at h
  | _ :: _, [], h => by simp [PyData.eqvAll] at h
  | x :: xs, y :: ys, h => by
    simp [PyData.eqvAll, PyData.eqv] at h
    rw [h.1, eqvI xs ys (by simpa using h.2)]
theorem fold_min : ∀ (l : List (D × PyData)) (x : D × PyData), (l.foldl pickP x = x ∨ l.foldl pickP x ∈ l) ∧ ∀ y, y = x ∨ y ∈ l → PySem.W.dataLt y.2 (l.foldl pickP x).2 = false
  | [], x => ⟨.inl rfl, fun y hy => by
    rcases hy with rfl | hy
    · exact PyProof.Rows.lex_irrefl (O := PyProof.Rows.itemOrd) _
    · cases hy⟩
  | z :: l, x => by
    have tr : ∀ a b c : PyData, PySem.W.dataLt a b = true → PySem.W.dataLt b c = true → PySem.W.dataLt a c = true := fun a b c h1 h2 => PyProof.Rows.lex_trans (O := PyProof.Rows.itemOrd) _ _ _ h1 h2
    have ng : ∀ a b c : PyData, PySem.W.dataLt a c = true → PySem.W.dataLt a b = true ∨ PySem.W.dataLt b c = true := fun a b c h => PyProof.Rows.lex_negTrans (O := PyProof.Rows.itemOrd) _ _ _ h
    have ih := fold_min l (pickP x z)
    rw [List.foldl_cons]
    have hp : pickP x z = x ∨ pickP x z = z := by unfold pickP; by_cases h : PySem.W.dataLt z.2 x.2 = true <;> simp [h]
    refine ⟨?_, fun y hy => ?_⟩
    · rcases ih.1 with h | h
      · rw [h]
        rcases hp with h2 | h2
        · exact .inl h2
        · exact .inr (by rw [h2]; exact List.mem_cons_self)
      · exact .inr (List.mem_cons_of_mem _ h)
    · have hpm := ih.2 (pickP x z) (.inl rfl)
      have less : ∀ q : D × PyData, PySem.W.dataLt q.2 (pickP x z).2 = false → PySem.W.dataLt q.2 (l.foldl pickP (pickP x z)).2 = false := fun q hq => by
        cases e : PySem.W.dataLt q.2 (l.foldl pickP (pickP x z)).2 with
        | false => rfl
        | true =>
          rcases ng _ (pickP x z).2 _ e with h | h
          · rw [hq] at h; cases h
          · rw [hpm] at h; cases h
      have irr : ∀ a : PyData, PySem.W.dataLt a a = false := fun a => PyProof.Rows.lex_irrefl (O := PyProof.Rows.itemOrd) _
      have hx : PySem.W.dataLt x.2 (pickP x z).2 = false := by
        unfold pickP
        by_cases h : PySem.W.dataLt z.2 x.2 = true
        · rw [if_pos h]
          cases e : PySem.W.dataLt x.2 z.2 with
          | false => rfl
          | true => have := tr _ _ _ e h; rw [irr] at this; cases this
        · rw [if_neg h]; exact irr _
      have hz : PySem.W.dataLt z.2 (pickP x z).2 = false := by
        unfold pickP
        by_cases h : PySem.W.dataLt z.2 x.2 = true
        · rw [if_pos h]; exact irr _
        · rw [if_neg h]; simpa using h
      rcases hy with rfl | hy
      · exact less _ hx
      · rcases List.mem_cons.mp hy with rfl | hy
        · exact less _ hz
        · exact ih.2 y (.inr hy)
theorem pop_wp {Q : D → Sto → Prop} {l : Nat} {ds : List D} {d : D} (h : S.objs[l]? = some (.lst (ds ++ [d]))) (hl : S.locked l = false) : wp (popM (.ref l) []) S Q E = Q d (S.put l (.lst ds)) := by
  refine wp_eq ?_
  unfold popM ownL
  simp only [hl, h, Bool.false_eq_true, if_false]
  have e : (ds ++ [d])[(ds ++ [d]).length - 1]? = some d := by
    rw [List.length_append]
    simp
  simp only [e, List.dropLast_concat]
theorem ixLI_wp {Q : D → Sto → Prop} {xs : List Int} {k : Nat} {x : Int} (h : xs[k]? = some x) : wp (itemO (.lst (xs.map .int)) (.int (k : Int))) S Q E = Q (.int x) S := by
  refine wp_eq ?_
  have hk := lt_of_get h
  show (match atI (xs.map D.int) (k : Int) with
    | some d => Fd.R.ok d S
    | none => .stk) = _
  have e : atI (xs.map D.int) (k : Int) = some (.int x) := by
    have h1 : ixN (xs.map D.int).length (k : Int) = some k := by
      unfold ixN
      rw [List.length_map]
      first
        | (rw [if_pos (by omega)]; simp; done)
        | (simp; omega)
    unfold atI
    rw [h1]
    show (xs.map D.int)[k]? = _
    rw [List.getElem?_map, h]
    rfl
  rw [e]
theorem irr (a : PyData) : PySem.W.dataLt a a = false := PyProof.Rows.lex_irrefl (O := PyProof.Rows.itemOrd) _
theorem ltr (a b c : PyData) (h1 : PySem.W.dataLt a b = true) (h2 : PySem.W.dataLt b c = true) : PySem.W.dataLt a c = true := PyProof.Rows.lex_trans (O := PyProof.Rows.itemOrd) _ _ _ h1 h2
def SortedN (ns : List Str) : Prop := ns.Pairwise fun a b => PySem.W.dataLt (.str b) (.str a) = false
theorem isort_id {α : Type} (le : α → α → Bool) : ∀ l : List α, l.Pairwise (fun a b => le a b = true) → isort le l = l
  | [], _ => rfl
  | a :: l, h => by
    rw [List.pairwise_cons] at h
    show insS le a (isort le l) = _
    rw [isort_id le l h.2]
    cases l with
    | nil => rfl
    | cons b l =>
      unfold insS
      rw [if_pos (h.1 b List.mem_cons_self)]
theorem sortN {ns : List Str} (h : SortedN ns) : sortP ((ns.map D.str).zip (ns.map PyData.str)) = ns.map D.str := by
  unfold sortP
  rw [zip_self, isort_id, List.map_map]
  · rfl
  · refine List.pairwise_map.mpr (h.imp fun {a b} h => ?_)
    unfold leP
    rw [h]
    rfl
theorem mapM_strs (S : Sto) (n : Nat) : ∀ l : List Str, (l.map D.str).mapM (toPy S n) = some (l.map PyData.str)
  | [] => rfl
  | i :: l => by
    rw [List.map_cons, List.mapM_cons, mapM_strs S n l]
    cases n <;> rfl
theorem alikeN (ns : List Str) : (alikeC (ns.map PyData.str) && sortableC (ns.map PyData.str)) = true := by
  have h1 : alikeC (ns.map PyData.str) = true := by
    unfold alikeC
    rw [List.all_eq_true]
    intro a ha
    rw [List.all_eq_true]
    intro b hb
    obtain ⟨p, _, rfl⟩ := List.mem_map.mp ha
    obtain ⟨q, _, rfl⟩ := List.mem_map.mp hb
    simp [PySem.W.alike]
  have h2 : sortableC (ns.map PyData.str) = true := by
    unfold sortableC
    rw [Bool.or_eq_true]
    refine .inr ?_
    rw [List.all_eq_true]
    intro a ha
    obtain ⟨p, _, rfl⟩ := List.mem_map.mp ha
    rfl
  rw [h1, h2]
  rfl
theorem sortedN_wp {ns : List Str} (h : SortedN ns) : wp (sortedA false [.lst (ns.map D.str)]) S Q E = Q (.lst (ns.map D.str)) S := by
  refine wp_eq ?_
  show sortedC false [.lst (ns.map D.str)] S = _
  unfold sortedC
  show (match pysD S (ns.map D.str) with
    | some ps => if (alikeC ps && sortableC ps) = true then (if false = true then newL (sortP ((ns.map D.str).zip ps)) S else Fd.R.ok (.lst (sortP ((ns.map D.str).zip ps))) S) else Fd.R.stk
    | none => Fd.R.stk) = _
  have hp : pysD S (ns.map D.str) = some (ns.map PyData.str) := mapM_strs S 12 ns
  rw [hp]
  simp only [alikeN, if_true, Bool.false_eq_true, if_false, sortN h]
theorem sortedD_wp {l : Nat} {ls : List (Str × Int)} (ho : S.objs[l]? = some (.dct false (ls.map kvOf))) (hl : S.locked l = false) (h : SortedN (ls.map (·.1))) : wp (sortedA false [.ref l]) S Q E = Q (.lst ((ls.map (·.1)).map D.str)) S := by
  refine wp_eq ?_
  unfold sortedA altC
  simp only [dct_at ho, Option.isSome_some, if_true]
  unfold sortKC
  have hk : Fd.sortK S (.ref l) = some ((ls.map (·.1)).map D.str) := by
    unfold Fd.sortK
    first
      | (simp only [hl, ho, Bool.false_eq_true, if_false, List.map_map]; rfl)
      | (simp only [ho, List.map_map]; rfl)
      | (simp only [dct_at ho, List.map_map]; rfl)
  simp only [hk]
  have hp : pysD S ((ls.map (·.1)).map D.str) = some ((ls.map (·.1)).map PyData.str) := mapM_strs S 12 _
  simp only [hp, alikeN, if_true, Bool.false_eq_true, if_false, sortN h]
theorem genL_any {α : Type} {bod : D → M (Option D)} {chk : List D → D → Option (Option D)} {fin : List D → M D} (enc : α → D) (f : α → Option D) (hc : ∀ ys y x, f x = some y → chk ys y = some none) : ∀ (xs : List α) (ys : List D), (∀ x ∈ xs, bod (enc x) S = .ok (f x) S) → wp (fin (ys ++ xs.filterMap f)) S Q E → wp (genL bod chk fin ys (xs.map enc)) S Q E
  | [], ys, _, h => by
    rw [List.filterMap_nil, List.append_nil] at h
    exact h
  | d :: ds, ys, hb, h => by
    rw [List.map_cons]
    unfold genL
    rw [wp_bind]
    have e := hb d List.mem_cons_self
    refine wp_nox (wp_of e ?_)
    cases ef : f d with
    | none =>
      rw [List.filterMap_cons, ef] at h
      exact genL_any enc f hc ds ys (fun x hx => hb x (List.mem_cons_of_mem _ hx)) h
    | some y =>
      rw [List.filterMap_cons, ef] at h
      simp only [hc ys y d ef]
      refine genL_any enc f hc ds (ys ++ [y]) (fun x hx => hb x (List.mem_cons_of_mem _ hx)) ?_
      rw [List.append_assoc]
      exact h
def minI (m : Int) (vs : List Int) : Int := vs.foldl (fun a y => if y < a then y else a) m
theorem best_fold : ∀ (vs : List Int) (v : Int), best ltB (v :: vs) = some (minI v vs) := by
  intro vs v
  unfold best
  rw [List.foldl_cons]
  have key : ∀ (vs : List Int) (v : Int), vs.foldl (fun o x => match o with
      | none => some x
      | some m => if ltB x m = true then some x else some m) (some v) = some (minI v vs) := by
    intro vs
    induction vs with
    | nil => intro v; rfl
    | cons y vs ih =>
      intro v
      rw [List.foldl_cons]
      show vs.foldl _ (if ltB y v = true then some y else some v) = _
      unfold ltB
      by_cases c : y < v
      · rw [if_pos (decide_eq_true c)]
        refine (ih y).trans ?_
        show _ = some (minI (if y < v then y else v) vs)
        rw [if_pos c]
      · rw [if_neg (by rw [decide_eq_false c]; exact Bool.false_ne_true)]
        refine (ih v).trans ?_
        show _ = some (minI (if y < v then y else v) vs)
        rw [if_neg c]
  exact key vs v
theorem genMin_ok {α : Type} {fit : En → M (List D)} {vs : List Nat} {g : D → En → M En} {t : En → M Bool} {fe : En → M D} (enc : α → D) (x : α) (xs : List α) (f : α → Int) (hit : fit σ S = .ok ((x :: xs).map enc) S) (hb : ∀ y ∈ x :: xs, bodG vs g t fe σ (enc y) S = .ok (some (.int (f y))) S) : genE fit vs g t fe chkInt (finBest ltB) σ S = .ok (.int (minI (f x) (xs.map f))) S := run_of fun Q E hq => by
  unfold genE
  rw [wp_bind, wp_eq hit]
  refine genL_any enc (fun y => some (D.int (f y))) (fun ys y z e => ?_) (x :: xs) [] hb ?_
  · cases e
    rfl
  · rw [List.nil_append, filterMap_some]
    refine wp_of (a := D.int (minI (f x) (xs.map f))) (S' := S) ?_ hq
    unfold finBest
    have e : ((x :: xs).map fun y => D.int (f y)).map dI = f x :: xs.map f := by
      rw [List.map_map, List.map_cons]
      rfl
    rw [e, best_fold]
    rfl
theorem genA_ok {α : Type} {fit : En → M (List D)} {vs : List Nat} {g : D → En → M En} {t : En → M Bool} {fe : En → M D} (enc : α → D) (xs : List α) (f : α → Bool) (hit : fit σ S = .ok (xs.map enc) S) (hb : ∀ y ∈ xs, bodG vs g t fe σ (enc y) S = .ok (some (.bl (f y))) S) : genE fit vs g t fe (chkB true) (finB false) σ S = .ok (.bl (xs.any f)) S := run_of fun Q E hq => by
  unfold genE
  rw [wp_bind, wp_eq hit]
  have key : ∀ (xs : List α) (ys : List D), (∀ y ∈ xs, bodG vs g t fe σ (enc y) S = .ok (some (.bl (f y))) S) → Q (.bl (xs.any f)) S → wp (genL (bodG vs g t fe σ) (chkB true) (finB false) ys (xs.map enc)) S Q E := by
    intro xs
    induction xs with
    | nil => intro ys _ hq; exact hq
    | cons x xs ih =>
      intro ys hb hq
      rw [List.map_cons]
      unfold genL
      rw [wp_bind]
      refine wp_nox (wp_of (hb x List.mem_cons_self) ?_)
      rw [List.any_cons] at hq
      cases e : f x with
      | true =>
        rw [e, Bool.true_or] at hq
        have hc : chkB true ys (.bl true) = some (some (.bl true)) := rfl
        simp only [hc]
        exact hq
      | false =>
        rw [e, Bool.false_or] at hq
        have hc : chkB true ys (.bl false) = some none := rfl
        simp only [hc]
        exact ih _ (fun y hy => hb y (List.mem_cons_of_mem _ hy)) hq
  exact key xs [] hb hq
theorem kv_keys (ls : List (Str × Int)) : (ls.map kvOf).map (fun p => dkD p.1) = ls.map fun p => D.str p.1 := by
  rw [List.map_map]
  rfl
theorem rngR_wp {fa : En → M D} {Q : List D → Sto → Prop} (k : wp (fa σ) S (fun d S' => ∃ n : Int, d = .int n ∧ 0 ≤ n ∧ n ≤ 1000 ∧ Q ((List.range n.toNat).map fun (i : Nat) => D.int (i : Int)) S') E) : wp (rng1 fa σ) S Q E := by
  unfold rng1
  rw [wp_bind]
  refine wp_mono k (fun d S' h => ?_) fun _ _ z => z
  obtain ⟨n, rfl, h0, h1, q⟩ := h
  simp only [wp_ite, wp_pure]
  rw [if_pos (by omega)]
  unfold rangeI
  simp only [Int.zero_add]
  exact q
theorem noRefI : ∀ xs : List Int, noRefs (xs.map D.int) = true
  | [] => rfl
  | x :: xs => by
    show (noRef (.int x) && noRefs (xs.map D.int)) = true
    rw [noRefI xs]
    rfl
theorem flatI : ∀ xs : List Int, flats (xs.map D.int) = true
  | [] => rfl
  | x :: xs => by
    show (flat (.int x) && flats (xs.map D.int)) = true
    rw [flatI xs]
    rfl
theorem fresh_use {Q : D → Sto → Prop} {den : List D → M D} {ds : List D} {R : D → Prop} {X : Nat → Prop} (hn : noRefs ds = true) (h : wp (den ds) Sto.e (fun d _ => flat d = true ∧ R d) fun c _ => X c) (k : ∀ d, R d → Q d S) (kx : ∀ c, X c → E c S) : wp (freshD den ds) S Q E := by
  unfold wp at h ⊢
  unfold freshD
  simp only [hn, if_true]
  cases e : den ds Sto.e with
  | stk => rw [e] at h; exact h.elim
  | exc c S' => rw [e] at h; exact kx c h
  | ok d S' =>
    rw [e] at h
    simp only [h.1, if_true]
    exact k d h.2
theorem call1_wp {Q : D → Sto → Prop} {f : En → M D} {g : List D → M D} : wp (callE (consA f nilA) g σ) S Q E = wp (f σ) S (fun x S1 => wp (g [x]) S1 Q E) E := by
  simp only [callE, consA, nilA, wp_bind, wp_pure]
theorem flatS : ∀ xs : List Str, flats (xs.map D.str) = true
  | [] => rfl
  | x :: xs => by
    show (flat (.str x) && flats (xs.map D.str)) = true
    rw [flatS xs]
    rfl
theorem noRefB : ∀ xs : List (Str × Int), noRefk (xs.map kvOf) = true
  | [] => rfl
  | x :: xs => by
    show (noRef (.int x.2) && noRefk (xs.map kvOf)) = true
    rw [noRefB xs]
    rfl
theorem neStrs_wp {Q : D → Sto → Prop} (ns : List Str) : wp (neA (.lst (ns.map D.str)) (.lst [])) S Q E = Q (.bl (!ns.isEmpty)) S := by
  refine wp_eq ?_
  have h1 : py S (.lst (ns.map D.str)) = some (.list (ns.map PyData.str)) := by
    show ((ns.map D.str).mapM (toPy S 11)).map PyData.list = _
    rw [mapM_strs S 11]
    rfl
  have h2 : py S (.lst []) = some (.list []) := rfl
  show (match py S (.lst (ns.map D.str)), py S (.lst []) with
    | some a, some b => Fd.R.ok (D.bl (!PyData.eqv a b)) S
    | _, _ => .stk) = _
  rw [h1, h2]
  cases ns with
  | nil => simp [PyData.eqv, PyData.eqvAll]
  | cons p l => simp [PyData.eqv, PyData.eqvAll]
theorem inS_wp {Q : D → Sto → Prop} (xs : List Str) (k : Str) : wp (inO (.str k) (.tup (xs.map D.str))) S Q E = Q (.bl (decide (k ∈ xs))) S := by
  refine wp_eq ?_
  show (match py S (.str k), (py S (.tup (xs.map D.str))).bind pyItems with
    | some a, some bs => Fd.R.ok (D.bl (bs.any fun z => PyData.eqv z a)) S
    | _, _ => .stk) = _
  have h : py S (.tup (xs.map D.str)) = some (.tuple (xs.map .str)) := by
    show ((xs.map D.str).mapM (toPy S 11)).map PyData.tuple = _
    rw [mapM_strs S 11]
    rfl
  rw [h]
  show Fd.R.ok (D.bl ((xs.map PyData.str).any fun z => PyData.eqv z (.str k))) S = _
  congr 2
  rw [Bool.eq_iff_iff, List.any_eq_true, decide_eq_true_eq]
  constructor
  · rintro ⟨z, hz, e⟩
    obtain ⟨i, hi, rfl⟩ := List.mem_map.mp hz
    rw [eqv_str, decide_eq_true_eq] at e
    rw [← e]
    exact hi
  · intro h
    exact ⟨.str k, List.mem_map.mpr ⟨k, h, rfl⟩, by rw [eqv_str]; simp⟩
theorem tupS_wp {Q : D → Sto → Prop} (xs : List D) : wp (tupC [.lst xs]) S Q E = Q (.tup xs) S := wp_eq rfl
end Fd

set_option Elab.async false
set_option linter.all false
set_option maxRecDepth 100000
set_option maxHeartbeats 1000000
namespace Fd
open PySem PySem.Spec PyProof.Rows L2 LamX
/-! ### sorting what is laid as data: the head is a least one -/
section
variable {α : Type} {enc : α → D} {py : α → PyData} {S : Sto} {E : Nat → Sto → Prop} {Q : D → Sto → Prop} {σ : En}
def LeastP (py : α → PyData) (b : α) (ks : List α) : Prop := b ∈ ks ∧ ∀ x ∈ ks, PySem.W.dataLt (py x) (py b) = false
theorem LeastP.uniq {b c : α} {ks ls : List α} (tot : ∀ a ∈ ks, ∀ b ∈ ks, PySem.W.dataLt (py a) (py b) = false → PySem.W.dataLt (py b) (py a) = false → a = b) (h1 : LeastP py b ks) (h2 : LeastP py c ls) (e : ∀ x, x ∈ ks ↔ x ∈ ls) : b = c :=
  tot b h1.1 c ((e c).mpr h2.1) (h2.2 b ((e b).mp h1.1)) (h1.2 c ((e c).mpr h2.1))
def srt (enc : α → D) (py : α → PyData) (ks : List α) : List D := sortP ((ks.map enc).zip (ks.map py))
theorem srt_head {ks : List α} (h : ks ≠ []) : ∃ b r, srt enc py ks = enc b :: r ∧ LeastP py b ks := by
  unfold srt
  rw [zip_self]
  cases ks with
  | nil => exact absurd rfl h
  | cons a ks =>
    rw [List.map_cons]
    unfold sortP
    have hh := head_isort (ks.map fun x => (enc x, py x)) (enc a, py a)
    have hf := fold_min (ks.map fun x => (enc x, py x)) (enc a, py a)
    obtain ⟨b, hb, eb⟩ : ∃ b ∈ a :: ks, (ks.map fun x => (enc x, py x)).foldl pickP (enc a, py a) = (enc b, py b) := by
      rcases hf.1 with h | h
      · exact ⟨a, List.mem_cons_self, h⟩
      · obtain ⟨b, hb, e⟩ := List.mem_map.mp h
        exact ⟨b, List.mem_cons_of_mem _ hb, e.symm⟩
    rw [eb] at hh hf
    cases e : isort leP ((enc a, py a) :: ks.map fun x => (enc x, py x)) with
    | nil => rw [e] at hh; cases hh
    | cons q r =>
      rw [e] at hh
      have hh : q = (enc b, py b) := Option.some.inj hh
      rw [hh]
      refine ⟨b, r.map (·.1), rfl, hb, fun x hx => ?_⟩
      rcases List.mem_cons.mp hx with rfl | hx
      · exact hf.2 (enc x, py x) (.inl rfl)
      · exact hf.2 (enc x, py x) (.inr (List.mem_map.mpr ⟨x, hx, rfl⟩))
/-- what sorting asks of the data -/
structure Srt (enc : α → D) (py : α → PyData) (S : Sto) : Prop where
  pyE : ∀ a, toPy S 12 (enc a) = some (py a)
  al : ∀ a b, PySem.W.alike (py a) (py b) = true
  tn : ∀ a, tupN (py a) = true
theorem Srt.pys (h : Srt enc py S) : ∀ ks : List α, pysD S (ks.map enc) = some (ks.map py)
  | [] => rfl
  | a :: ks => by
    unfold pysD
    rw [List.map_cons, List.mapM_cons, h.pyE, show (ks.map enc).mapM (toPy S 12) = some (ks.map py) from h.pys ks]
    rfl
theorem Srt.alk (h : Srt enc py S) (ks : List α) : alikeC (ks.map py) = true := by
  unfold alikeC
  rw [List.all_eq_true]
  intro a ha
  rw [List.all_eq_true]
  intro b hb
  obtain ⟨p, _, rfl⟩ := List.mem_map.mp ha
  obtain ⟨q, _, rfl⟩ := List.mem_map.mp hb
  exact h.al p q
theorem Srt.srb (h : Srt enc py S) (ks : List α) : sortableC (ks.map py) = true := by
  unfold sortableC
  rw [Bool.or_eq_true]
  refine .inl ?_
  rw [List.all_eq_true]
  intro a ha
  obtain ⟨p, _, rfl⟩ := List.mem_map.mp ha
  exact h.tn p
theorem nn_of_tn {p : PyData} (h : tupN p = true) : isNonP p = false := by cases p <;> first | rfl | cases h
theorem Srt.nn (h : Srt enc py S) (ks : List α) : (ks.map py).any isNonP = false := by
  rw [List.any_eq_false]
  intro a ha
  obtain ⟨p, _, rfl⟩ := List.mem_map.mp ha
  exact fun e => Bool.false_ne_true ((nn_of_tn (h.tn p)).symm.trans e)
theorem sortedX_ok (h : Srt enc py S) (ks : List α) : sortedA false [.lst (ks.map enc)] S = .ok (.lst (srt enc py ks)) S := by
  show sortedC false [.lst (ks.map enc)] S = _
  unfold sortedC
  show (match pysD S (ks.map enc) with
    | some ps => if (alikeC ps && sortableC ps) = true then (if false = true then newL (sortP ((ks.map enc).zip ps)) S else Fd.R.ok (.lst (sortP ((ks.map enc).zip ps))) S) else Fd.R.stk
    | none => Fd.R.stk) = _
  rw [h.pys]
  simp only [h.alk, h.srb, Bool.and_self, if_true, Bool.false_eq_true, if_false]
  rfl
theorem finSrtX_ok (h : Srt enc py S) (ks : List α) : finSrt false (ks.map enc) S = .ok (.lst (srt enc py ks)) S := by
  unfold finSrt
  rw [h.pys]
  simp only [h.alk, h.srb, Bool.and_self, if_true, Bool.false_eq_true, if_false]
  rfl
theorem minX_ok (h : Srt enc py S) {ks : List α} {d : D} {r : List D} {x : D} (hx : seqL S x = some (ks.map enc)) (hd : srt enc py ks = d :: r) : bestC PySem.W.dataLt [x] S = .ok d S := by
  unfold bestC
  simp only [hx, h.pys, h.alk, h.nn, Bool.not_false, Bool.and_self, if_true]
  rw [best_head, show sortP ((ks.map enc).zip (ks.map py)) = d :: r from hd]
  rfl
theorem ltX_ok (h : Srt enc py S) (hi : ∀ a, isI (enc a) = false) (a b : α) : ltA (enc a) (enc b) S = .ok (.bl (PySem.W.dataLt (py a) (py b))) S := by
  unfold ltA alt2
  simp only [hi, Bool.false_eq_true, if_false]
  unfold ltD
  have e : ltP (py a) (py b) = true := by
    unfold ltP
    have := nn_of_tn (h.tn a)
    rw [h.al]
    cases hp : py a <;> first | rfl | (rw [hp] at this; cases this)
  have ha : Fd.py S (enc a) = some (py a) := h.pyE a
  have hb : Fd.py S (enc b) = some (py b) := h.pyE b
  simp only [ha, hb, e, if_true]
/-! texts: the order is total -/
theorem alikeS : ∀ xs ys : List Str, PySem.W.alikeAll (xs.map PyData.str) (ys.map .str) = true
  | [], _ => by simp [PySem.W.alikeAll]
  | _ :: _, [] => by simp [PySem.W.alikeAll]
  | x :: xs, y :: ys => by simp [PySem.W.alikeAll, PySem.W.alike, alikeS xs ys]
theorem alikeSS : ∀ xs ys : List (List Str), PySem.W.alikeAll (xs.map fun r => PyData.tuple (r.map .str)) (ys.map fun r => PyData.tuple (r.map .str)) = true
  | [], _ => by simp [PySem.W.alikeAll]
  | _ :: _, [] => by simp [PySem.W.alikeAll]
  | x :: xs, y :: ys => by simp [PySem.W.alikeAll, PySem.W.alike, alikeS, alikeSS xs ys]
theorem str_total {x y : Str} (h1 : PySem.W.dataLt (.str x) (.str y) = false) (h2 : PySem.W.dataLt (.str y) (.str x) = false) : x = y := by
  rw [PySem.W.dataLt_str, decide_eq_false_iff_not] at h1 h2
  have e := List.le_antisymm h2 h1
  cases x; cases y
  congr 1
  exact Array.toList_inj.mp e
theorem rows_total : ∀ {xs ys : List Str}, xs.length = ys.length → PySem.W.rowLt (xs.map .str) (ys.map .str) = false → PySem.W.rowLt (ys.map .str) (xs.map .str) = false → xs = ys
  | [], [], _, _, _ => rfl
  | [], _ :: _, h, _, _ => by cases h
  | _ :: _, [], h, _, _ => by cases h
  | x :: xs, y :: ys, h, h1, h2 => by
    unfold PySem.W.rowLt at h1 h2
    rw [List.map_cons, List.map_cons, PySem.W.dataLt_cons (by simp [PySem.W.alike]), eqv_str] at h1 h2
    by_cases e : x = y
    · subst e
      simp only [decide_true, if_true] at h1 h2
      rw [rows_total (Nat.succ.inj h) h1 h2]
    · have e' : ¬ y = x := fun z => e z.symm
      simp only [e, e', decide_false, Bool.false_eq_true, if_false] at h1 h2
      exact absurd (str_total h1 h2) e
theorem eqvS : ∀ xs ys : List Str, PyData.eqvAll (xs.map PyData.str) (ys.map .str) = true → xs = ys
  | [], [], _ => rfl
  | [], _ :: _, h => by simp [PyData.eqvAll] at h
  | _ :: _, [], h => by simp [PyData.eqvAll] at h
  | x :: xs, y :: ys, h => by
    simp [PyData.eqvAll] at h
    have h1 := h.1
    rw [eqv_str] at h1
    rw [of_decide_eq_true h1, eqvS xs ys (by simpa using h.2)]
/-- (total, heads, more): total and heads decide -/
theorem key3_total {t1 t2 : Int} {h1 h2 : List Str} {p1 p2 : PyData} (hl : h1.length = h2.length) (a1 : PySem.W.dataLt (.tuple [.int t1, .tuple (h1.map .str), p1]) (.tuple [.int t2, .tuple (h2.map .str), p2]) = false)
    (a2 : PySem.W.dataLt (.tuple [.int t2, .tuple (h2.map .str), p2]) (.tuple [.int t1, .tuple (h1.map .str), p1]) = false) : h1 = h2 := by
  have al : ∀ xs ys : List Str, PySem.W.alike (.tuple (xs.map PyData.str)) (.tuple (ys.map .str)) = true := fun xs ys => by simp [PySem.W.alike, alikeS]
  have ai : ∀ x y : Int, PySem.W.alike (.int x) (.int y) = true := fun x y => by simp [PySem.W.alike]
  rw [PySem.W.dataLt_tuple, PySem.W.dataLt_cons (ai _ _), eqv_int, PySem.W.dataLt_int] at a1 a2
  have e1 : t1 = t2 := by
    by_cases h : t1 = t2
    · exact h
    · have h' : ¬ t2 = t1 := fun z => h z.symm
      simp only [h, h', decide_false, Bool.false_eq_true, if_false, decide_eq_false_iff_not] at a1 a2
      omega
  simp only [e1, decide_true, if_true] at a1 a2
  rw [PySem.W.dataLt_cons (al _ _)] at a1 a2
  by_cases h : PyData.eqv (.tuple (h1.map .str)) (.tuple (h2.map .str)) = true
  · exact eqvS _ _ (by simpa [PyData.eqv] using h)
  · have hs : ¬ PyData.eqv (.tuple (h2.map .str)) (.tuple (h1.map .str)) = true := fun z => by
      have z := eqvS _ _ (by simpa [PyData.eqv] using z)
      rw [z] at h
      exact h (by rw [eqvT_refl]; intro p hp; obtain ⟨i, _, rfl⟩ := List.mem_map.mp hp; rw [eqv_str]; simp)
    rw [if_neg h, PySem.W.dataLt_tuple] at a1
    rw [if_neg hs, PySem.W.dataLt_tuple] at a2
    exact rows_total hl a1 a2
end
/-! ### pairs of ints -/
section
variable {S : Sto} {E : Nat → Sto → Prop} {Q : D → Sto → Prop} {σ : En}
def enc2 (p : Int × Int) : D := .tup [.int p.1, .int p.2]
def py2 (p : Int × Int) : PyData := .tuple [.int p.1, .int p.2]
theorem srt2 : Srt enc2 py2 S := ⟨fun _ => rfl, fun a b => by simp [py2, PySem.W.alike, PySem.W.alikeAll], fun _ => rfl⟩
theorem lt2 (p q : Int × Int) : PySem.W.dataLt (py2 p) (py2 q) = decide (p.1 < q.1 ∨ (p.1 = q.1 ∧ p.2 < q.2)) := PySem.W.dataLt_ii _ _ _ _
theorem tot2 (p q : Int × Int) (h1 : PySem.W.dataLt (py2 p) (py2 q) = false) (h2 : PySem.W.dataLt (py2 q) (py2 p) = false) : p = q := by
  rw [lt2, decide_eq_false_iff_not] at h1 h2
  obtain ⟨a, b⟩ := p
  obtain ⟨c, d⟩ := q
  simp only at h1 h2
  have : a = c := by omega
  subst this
  have : b = d := by omega
  rw [this]
/-! ### comparing a thing with itself -/
theorem neSame_ok {d : D} {p : PyData} (hd : dctD S d = none) (hp : py S d = some p) (he : PyData.eqv p p = true) : neA d d S = .ok (.bl false) S := by
  unfold neA alt2
  simp only [hd, Option.isSome_none, Bool.false_eq_true, if_false]
  unfold neD
  simp only [hp, he, Bool.not_true]
theorem neEqv_ok {d e : D} {p q : PyData} (hd : dctD S d = none) (hp : py S d = some p) (hq : py S e = some q) : neA d e S = .ok (.bl (!PyData.eqv p q)) S := by
  unfold neA alt2
  simp only [hd, Option.isSome_none, Bool.false_eq_true, if_false]
  unfold neD
  simp only [hp, hq]
theorem eqEqv_ok {d e : D} {p q : PyData} (hd : dctD S d = none) (hp : py S d = some p) (hq : py S e = some q) : eqA d e S = .ok (.bl (PyData.eqv p q)) S := by
  unfold eqA alt2
  simp only [hd, Option.isSome_none, Bool.false_eq_true, if_false]
  unfold eqD
  simp only [hp, hq]
/-- all(..) -/
theorem genAll_ok {α : Type} {fit : En → M (List D)} {vs : List Nat} {g : D → En → M En} {t : En → M Bool} {fe : En → M D} (enc : α → D) (xs : List α) (f : α → Bool) (hit : fit σ S = .ok (xs.map enc) S) (hb : ∀ y ∈ xs, bodG vs g t fe σ (enc y) S = .ok (some (.bl (f y))) S) : genE fit vs g t fe (chkB false) (finB true) σ S = .ok (.bl (xs.all f)) S := run_of fun Q E hq => by
  unfold genE
  rw [wp_bind, wp_eq hit]
  have key : ∀ (xs : List α) (ys : List D), (∀ y ∈ xs, bodG vs g t fe σ (enc y) S = .ok (some (.bl (f y))) S) → Q (.bl (xs.all f)) S → wp (genL (bodG vs g t fe σ) (chkB false) (finB true) ys (xs.map enc)) S Q E := by
    intro xs
    induction xs with
    | nil => intro ys _ hq; exact hq
    | cons x xs ih =>
      intro ys hb hq
      rw [List.map_cons]
      unfold genL
      rw [wp_bind]
      refine wp_nox (wp_of (hb x List.mem_cons_self) ?_)
      rw [List.all_cons] at hq
      cases e : f x with
      | false =>
        rw [e, Bool.false_and] at hq
        have hc : chkB false ys (.bl false) = some (some (.bl false)) := rfl
        simp only [hc]
        exact hq
      | true =>
        rw [e, Bool.true_and] at hq
        have hc : chkB false ys (.bl true) = some none := rfl
        simp only [hc]
        exact ih _ (fun y hy => hb y (List.mem_cons_of_mem _ hy)) hq
  exact key xs [] hb hq
end
end Fd

set_option Elab.async false
set_option linter.all false
set_option maxRecDepth 100000
set_option maxHeartbeats 4000000
namespace K01
open PySem PySem.Spec PyProof.Rows L2 LamX Fd
def top (i : Nat) : Stmt := PySem.Challenge.pw_tailorstack_k01_measures_and_sizes.main.body.getD i (.Pass ⟨0, 0, 0, 0⟩)
abbrev s_checkMeasures : Stmt := top 6
abbrev s_far : Stmt := top 7
abbrev s_SizesInit : Stmt := inClass (top 8) 0
abbrev s_SizesSize : Stmt := inClass (top 8) 1
abbrev s_SizesNearest : Stmt := inClass (top 8) 2
abbrev s_SizesRoomy : Stmt := inClass (top 8) 3
abbrev s_SizesBetween : Stmt := inClass (top 8) 4
abbrev s_SizesAlterations : Stmt := inClass (top 8) 5
abbrev s_grouped : Stmt := top 9
abbrev s_lawDice : Stmt := top 11
abbrev s_lawRoll : Stmt := top 12
abbrev s_lawRounds : Stmt := top 13
abbrev s_lawTold : Stmt := top 14
abbrev s_lawPerson : Stmt := top 15
abbrev s_lawFar : Stmt := top 16
abbrev s_lawHeads : Stmt := top 17
abbrev s_law : Stmt := top 18
abbrev dd (p : Str × Option Str) (n q : Str) (s : Stmt) : He.DefD := ⟨p, n, q, defArgs s, defBody s, defScope s, [], []⟩
abbrev d_checkMeasures : He.DefD := dd ("check_measures", none) "check_measures" "check_measures" s_checkMeasures
abbrev d_far : He.DefD := dd ("far", none) "far" "far" s_far
abbrev d_SizesInit : He.DefD := dd ("Sizes", some "__init__") "__init__" "Sizes.__init__" s_SizesInit
abbrev d_SizesSize : He.DefD := dd ("Sizes", some "size") "size" "Sizes.size" s_SizesSize
abbrev d_SizesNearest : He.DefD := dd ("Sizes", some "nearest") "nearest" "Sizes.nearest" s_SizesNearest
abbrev d_SizesRoomy : He.DefD := dd ("Sizes", some "roomy") "roomy" "Sizes.roomy" s_SizesRoomy
abbrev d_SizesBetween : He.DefD := dd ("Sizes", some "between") "between" "Sizes.between" s_SizesBetween
abbrev d_SizesAlterations : He.DefD := dd ("Sizes", some "alterations") "alterations" "Sizes.alterations" s_SizesAlterations
abbrev d_grouped : He.DefD := dd ("grouped", none) "grouped" "grouped" s_grouped
abbrev d_lawDice : He.DefD := dd ("_law_dice", none) "_law_dice" "_law_dice" s_lawDice
abbrev d_lawRoll : He.DefD := dd ("_law_roll", none) "_law_roll" "_law_roll" s_lawRoll
abbrev d_lawRounds : He.DefD := dd ("_law_rounds", none) "_law_rounds" "_law_rounds" s_lawRounds
abbrev d_lawTold : He.DefD := dd ("_law_told", none) "_law_told" "_law_told" s_lawTold
abbrev d_lawPerson : He.DefD := dd ("_law_person", none) "_law_person" "_law_person" s_lawPerson
abbrev d_lawFar : He.DefD := dd ("_law_far", none) "_law_far" "_law_far" s_lawFar
abbrev d_lawHeads : He.DefD := dd ("_law_heads", none) "_law_heads" "_law_heads" s_lawHeads
abbrev d_law : He.DefD := dd ("law", none) "law" "law" s_law
def fn : List He.DefD := [d_checkMeasures, d_far, d_SizesInit, d_SizesSize, d_SizesNearest, d_SizesRoomy, d_SizesBetween, d_SizesAlterations, d_grouped, d_lawDice, d_lawRoll, d_lawRounds, d_lawTold, d_lawPerson, d_lawFar, d_lawHeads, d_law]
def fa : List He.Fa := [.free "sorted", .free "any", .exc "MeasureError", .glo "MeasureError", .glo "check_measures", .free "sum", .free "dict", .free "tuple", .cls "Sizes", .noat "Sizes" "rows", .free "len", .free "zip", .free "enumerate", .glo "far", .free "all", .meth "Sizes" "size", .free "range", .free "abs", .free "int", .glo "_law_roll", .glo "_law_dice", .glo "_law_heads", .mkr "Sizes", .glo "Sizes", .meth "Sizes" "nearest", .meth "Sizes" "roomy", .meth "Sizes" "between", .meth "Sizes" "alterations", .glo "grouped", .free "str", .glo "_law_rounds", .glo "_law_person", .free "list", .glo "_law_far", .free "min", .glo "_law_told", .exm "MeasureError" "MeasureError" true, .glo "law"]
def tq : List TabQ := [(("check_measures", none), (("check_measures" : Str) ++ ".<locals>.") ++ "<genexpr>"), (("far", none), (("far" : Str) ++ ".<locals>.") ++ "<genexpr>"), (("Sizes", some "__init__"), (("Sizes.__init__" : Str) ++ ".<locals>.") ++ "<genexpr>"), (("Sizes", some "roomy"), (("Sizes.roomy" : Str) ++ ".<locals>.") ++ "<genexpr>"), (("Sizes", some "alterations"), (("Sizes.alterations" : Str) ++ ".<locals>.") ++ "<genexpr>"), (("grouped", none), (("grouped" : Str) ++ ".<locals>.") ++ "<genexpr>"), (("law", none), (("law" : Str) ++ ".<locals>.") ++ "<lambda>")]
def cls : List Str := ["MeasureError", "Sizes"]
def cs : List (Str × D) := [("NAMES", .kt [.str "chest", .str "waist", .str "hip", .str "back", .str "sleeve"])]
def kd_WEIGHTS : List (Str × D) := [("chest", .int 4), ("waist", .int 3), ("hip", .int 3), ("back", .int 1), ("sleeve", .int 1)]
def kds : List (Str × List (Str × D)) := [("WEIGHTS", kd_WEIGHTS)]
abbrev kt_WEIGHTS : He.Tab := (fun K => He.ga K "WEIGHTS", ["chest", "waist", "hip", "back", "sleeve"])
def tsT : List He.Tab := [kt_WEIGHTS]
abbrev ex : PySem.W.Frag → Bool := exC tq cs kds
abbrev E (w : World) (h : Heap) (K : PySem.W.Frag) (mg : Str → Option Value) (base : Heap) : Prop := Ev fa fn tsT tq ex w h K mg base
abbrev GG (K : PySem.W.Frag) (lp : Nat → Addr → Addr → HO → HO → Prop) : Gx := GX cls tq K lp
section
variable {P : Program} {w : World} {h : Heap} {K : PySem.W.Frag} {mg : Str → Option Value} {base : Heap}
def okc : Nat → Bool := fun i => decide (i ∈ [0])
theorem hexc {lp : Nat → Addr → Addr → HO → HO → Prop} (e : E w h K mg base) : ∀ i, okc i = true → PySem.W.exmOne K (.ref ((GG K lp).cA i)) (.ref (He.ga K "MeasureError")) = some true := fun i hi => by
  have hi : i ∈ [0] := of_decide_eq_true hi
  simp only [List.mem_cons, List.not_mem_nil, or_false] at hi
  rcases hi with rfl
  · exact e.exm 36
theorem told (e : E w h K mg base) : ToldF K mg "_law_told" "MeasureError" (He.fAd K d_lawTold.at_) (He.ga K "MeasureError") := by
  obtain ⟨oc, od, dV, kV, doc, pm, an, cdv, ct, osl, efd, lk, hcd, hD, _⟩ := (e.def_ 12 (d := d_lawTold)).ex
  have hb : L2.Binds K (fdOf K d_lawTold.at_) ["what"] [] := e.binds 12 (d := d_lawTold) rfl (fun _ _ _ _ _ _ us hl => match us, hl with | [_], _ => rfl) rfl
  rw [efd] at lk hb
  exact ⟨⟨_, _, _, _, _, _, _, _, _, _, _, _, _, _, _, ["what"], _, _, _, _, _, _, _, _, lk, hcd, hb, ⟨rfl, rfl, rfl, by decide +kernel, rfl, by decide +kernel, by decide +kernel⟩, rfl, .inl rfl, rfl, e.glo 3, by decide, by decide, by decide⟩, e.glo 35, e.keep 12 (d := d_lawTold)⟩
def N_checkMeasures : List Str := ["table", "name"]
theorem sc_checkMeasures : FnScope N_checkMeasures ["table"] (defScope s_checkMeasures) := ⟨rfl, rfl, rfl, by decide +kernel, rfl, by decide +kernel, by decide +kernel⟩
def dn_checkMeasures : En → M Fl := (ifS (orT (tst1 (bin2 neA (callE (consA (getV 0) nilA) (sortedA false)) (callE (consA (cst (.kt [.str "chest", .str "waist", .str "hip", .str "back", .str "sleeve"])) nilA) (sortTC false)))) (tst1 (lockQ (locV 0) (genE (itSeq (getV 0)) [1] (nameG 1) yesT (notV (chainV leI leI (cst (.int 1)) (bin2 itemO (getV 0) (getV 1)) (cst (.int 3000)))) (chkB true) (finB false))))) (fun _ => M.exc 0) skip)
def D_checkMeasures : List D → M D := bodyD 2 dn_checkMeasures
theorem b_checkMeasures (e : E w h K mg base) : L2.Binds K (fdOf K d_checkMeasures.at_) ["table"] [] := e.binds 0 (d := d_checkMeasures) rfl (fun _ _ _ _ _ _ us hl => match us, hl with | [_], _ => rfl) rfl
theorem ok_checkMeasures {lp : Nat → Addr → Addr → HO → HO → Prop} (e : E w h K mg base) : FnD P w mg base (GG K lp) 4 (He.fAd K d_checkMeasures.at_) (fdOf K d_checkMeasures.at_) ["table"] D_checkMeasures :=
  fnC_ok (G := GG K lp) (p := d_checkMeasures.at_) (N := N_checkMeasures) (k := 3) (fb := dn_checkMeasures) (e.def_ 0 (d := d_checkMeasures)) sc_checkMeasures fun A outer s H E hr tk => by
  unfold dn_checkMeasures
  exact (sss_one (by exact (ss_if (sw_or (st_cmp (od_neA rfl hr.units) (se_callB (cd_sortedA false rfl rfl hr.units) (e.free 0) (sa_cons (se_var 0) sa_nil)) (se_callB (cd_sortT false rfl hr.units) (e.free 0) (sa_cons (se_con e.con e.X e.N rfl (List.mem_of_getElem? (l := cs) (i := 0) rfl)) sa_nil))) (sw_or1 (st_of (se_lockQ (locV 0) (se_genB (own := [("name", 1)]) (k := 2) ⟨hr, (e.tab 0).1, rfl, rfl, (e.tab 0).2.1, (e.tab 0).2.2, sc_checkMeasures.nd, rfl⟩ (GSc.by (by kernel_rfl)) (si_seq rfl (se_var 0)) (use_any hr rfl rfl ⟨fun B0 s0 H0 cl0 C0 code0 fp0 hB0 => let hr1 := fun env => hB0.room (k := 2) (env := env) hr; ⟨by exact (sgc_name 1 sc_checkMeasures.nd), by exact sts_nil, by exact (se_not (se_chain od_leI od_leI se_int (se_item rfl (hu_of (hr1 _)) (se_var 0) (se_var 1)) se_int))⟩⟩) (e.free 1)))))).pt (sss_one (by exact (ss_raise 0 rfl tk PySem.F.excBase_ValueError (e.exc 2).1 (e.glo 3) (e.exc 2).2.1 (raises_own (e.exc 2).2.2.1 (e.exc 2).2.2.2)))) sss_nil)))
def N_far : List Str := ["one", "other", "name"]
theorem sc_far : FnScope N_far ["one", "other"] (defScope s_far) := ⟨rfl, rfl, rfl, by decide +kernel, rfl, by decide +kernel, by decide +kernel⟩
def dn_far : En → M Fl := (seqS (exprS (callE (consA (getV 0) nilA) (arg 1 D_checkMeasures))) (seqS (exprS (callE (consA (getV 1) nilA) (arg 1 D_checkMeasures))) (retS (genE (itSeq (cst (.kt [.str "chest", .str "waist", .str "hip", .str "back", .str "sleeve"]))) [2] (nameG 2) yesT (bin2 mulA (bin2 mulA (kdE kd_WEIGHTS (getV 2)) (bin2 subI (bin2 itemO (getV 0) (getV 2)) (bin2 itemO (getV 1) (getV 2)))) (bin2 subI (bin2 itemO (getV 0) (getV 2)) (bin2 itemO (getV 1) (getV 2)))) chkSum finSum))))
def D_far : List D → M D := bodyD 3 dn_far
theorem b_far (e : E w h K mg base) : L2.Binds K (fdOf K d_far.at_) ["one", "other"] [] := e.binds 1 (d := d_far) rfl (fun _ _ _ _ _ _ us hl => match us, hl with | [_, _], _ => rfl) rfl
theorem ok_far {lp : Nat → Addr → Addr → HO → HO → Prop} (e : E w h K mg base) : FnD P w mg base (GG K lp) 5 (He.fAd K d_far.at_) (fdOf K d_far.at_) ["one", "other"] D_far :=
  fnC_ok (G := GG K lp) (p := d_far.at_) (N := N_far) (k := 4) (fb := dn_far) (e.def_ 1 (d := d_far)) sc_far fun A outer s H E hr tk => by
  unfold dn_far
  exact (sss_cons (by exact (ss_expr (se_call (ok_checkMeasures e) (hr.mono (by decide)) (e.glo 4) (e.keep 0 (d := d_checkMeasures)) (b_checkMeasures e) tk (sa_cons (se_var 0) sa_nil)))) (sss_cons (by exact (ss_expr (se_call (ok_checkMeasures e) (hr.mono (by decide)) (e.glo 4) (e.keep 0 (d := d_checkMeasures)) (b_checkMeasures e) tk (sa_cons (se_var 1) sa_nil)))) (sss_one (by exact (ss_ret (se_genB (own := [("name", 2)]) (k := 3) ⟨hr, (e.tab 1).1, rfl, rfl, (e.tab 1).2.1, (e.tab 1).2.2, sc_far.nd, rfl⟩ (GSc.by (by kernel_rfl)) (si_seq rfl (se_con e.con e.X e.N rfl (List.mem_of_getElem? (l := cs) (i := 0) rfl))) (use_sum hr rfl rfl ⟨fun B0 s0 H0 cl0 C0 code0 fp0 hB0 => let hr1 := fun env => hB0.room (k := 3) (env := env) hr; ⟨by exact (sgc_name 2 sc_far.nd), by exact sts_nil, by exact (se_op od_mulA (se_op od_mulA (se_kd (ks := kds) e.con e.X e.N rfl rfl (e.kd 0 (t := kt_WEIGHTS) rfl).choose_spec.choose_spec (List.mem_of_getElem? (l := kds) (i := 0) rfl) (se_var 2)) (se_op od_subI (se_item rfl (hu_of (hr1 _)) (se_var 0) (se_var 2)) (se_item rfl (hu_of (hr1 _)) (se_var 1) (se_var 2)))) (se_op od_subI (se_item rfl (hu_of (hr1 _)) (se_var 0) (se_var 2)) (se_item rfl (hu_of (hr1 _)) (se_var 1) (se_var 2))))⟩⟩) (e.free 5)))))))
def N_SizesInit : List Str := ["self", "rows", "name", "table", "one", "other"]
theorem sc_SizesInit : FnScope N_SizesInit ["self", "rows"] (defScope s_SizesInit) := ⟨rfl, rfl, rfl, by decide +kernel, rfl, by decide +kernel, by decide +kernel⟩
def L_SizesInit_b0 : En → M Fl := (exprS (callE (consA (getV 3) nilA) (arg 1 D_checkMeasures)))
def L_SizesInit_b1 : En → M Fl := (ifS (tst1 (genE (itSeq (cst (.kt [.str "chest", .str "waist", .str "hip", .str "back", .str "sleeve"]))) [2] (nameG 2) yesT (bin2 gtI (bin2 itemO (bin2 itemO (getV 4) (cst (.int 1))) (getV 2)) (bin2 itemO (bin2 itemO (getV 5) (cst (.int 1))) (getV 2))) (chkB true) (finB false))) (fun _ => M.exc 0) skip)
def dn_SizesInit : En → M Fl := (seqS (fldS 1 "rows" (getV 0) (lockQ (locV 1) (genE (itSeq (getV 1)) [2, 3] (tupG 2 (consG (nameG 2) (consG (nameG 3) nilG))) yesT (tupV (consA (getV 2) (consA (dictV (consA (getV 3) nilA)) nilA))) chkAll finTup))) (seqS (ifS (orT (tst1 (bin2 eqT0 (fldE 1 "rows" (getV 0)) (tupV nilA))) (tst1 (bin2 ltA (callE (consA (lockQ (locF 0 1 "rows") (dcE (itSeq (fldE 1 "rows" (getV 0))) [2, 3] (tupG 2 (consG (nameG 2) (consG (nameG 3) nilG))) yesT (getV 2) (cst (.bl true)))) nilA) lenC) (callE (consA (fldE 1 "rows" (getV 0)) nilA) lenC)))) (fun _ => M.exc 0) skip) (seqS (lockQ (locF 0 1 "rows") (forS (itSeq (fldE 1 "rows" (getV 0))) (tupG 2 (consG (nameG 2) (consG (nameG 3) nilG))) L_SizesInit_b0)) (forS (zipS (fldE 1 "rows" (getV 0)) (sliceE (fldE 1 "rows" (getV 0)) (some (cst (.int 1))) none)) (tupG 2 (consG (nameG 4) (consG (nameG 5) nilG))) L_SizesInit_b1))))
def D_SizesInit : List D → M D := bodyD 6 dn_SizesInit
theorem b_SizesInit (e : E w h K mg base) : L2.Binds K (fdOf K d_SizesInit.at_) ["self", "rows"] [] := e.binds 2 (d := d_SizesInit) rfl (fun _ _ _ _ _ _ us hl => match us, hl with | [_, _], _ => rfl) rfl
theorem ok_SizesInit {lp : Nat → Addr → Addr → HO → HO → Prop} (e : E w h K mg base) : FnD P w mg base (GG K lp) 5 (He.fAd K d_SizesInit.at_) (fdOf K d_SizesInit.at_) ["self", "rows"] D_SizesInit :=
  fnC_ok (G := GG K lp) (p := d_SizesInit.at_) (N := N_SizesInit) (k := 4) (fb := dn_SizesInit) (e.def_ 2 (d := d_SizesInit)) sc_SizesInit fun A outer s H E hr tk => by
  unfold dn_SizesInit
  exact (sss_cons (by exact (ss_fld 1 (e.cls 8) (e.noat 9) (se_var 0) (se_lockQ (locV 1) (se_genTy (own := [("name", 2), ("table", 3)]) (k := 3) ⟨hr, (e.tab 2).1, rfl, rfl, (e.tab 2).2.1, (e.tab 2).2.2, sc_SizesInit.nd, rfl⟩ (GSc.by (by kernel_rfl)) (si_seq rfl (se_var 1)) (use_tuple hr rfl rfl ⟨fun B0 s0 H0 cl0 C0 code0 fp0 hB0 => let hr1 := fun env => hB0.room (k := 3) (env := env) hr; ⟨by exact (sgc_tup 2 rfl rfl (sgcs_cons (sgc_name 2 sc_SizesInit.nd) (sgcs_cons (sgc_name 3 sc_SizesInit.nd) sgcs_nil))), by exact sts_nil, by exact (se_tup (sa_cons (se_var 2) (sa_cons (se_dictV rfl rfl (e.free 6) (sa_cons (se_var 3) sa_nil)) sa_nil)))⟩⟩) (e.free 7))))) (sss_cons (by exact (ss_if (sw_or (st_cmp (od_eqT0 rfl hr.units) (se_fld 1 (e.cls 8) (e.noat 9) (se_var 0)) (se_tup sa_nil)) (sw_or1 (st_cmp (od_ltA rfl hr.units) (se_callB (cd_len rfl) (e.free 10) (sa_cons (se_lockQ (locF 0 1 "rows") (se_dc (own := [("name", 2), ("table", 3)]) rfl sc_SizesInit.nd (si_seq rfl (se_fld 1 (e.cls 8) (e.noat 9) (se_var 0))) (blkOk_by (by kernel_rfl)) (fun s0 H0 C0 cl0 fp0 => ⟨by exact (sgc_tup 2 rfl rfl (sgcs_cons (sgc_name 2 sc_SizesInit.nd) (sgcs_cons (sgc_name 3 sc_SizesInit.nd) sgcs_nil))), by exact sts_nil, by exact (se_var 2), by exact se_bl⟩))) sa_nil)) (se_callB (cd_len rfl) (e.free 10) (sa_cons (se_fld 1 (e.cls 8) (e.noat 9) (se_var 0)) sa_nil))))).pt (sss_one (by exact (ss_raise 0 rfl tk PySem.F.excBase_ValueError (e.exc 2).1 (e.glo 3) (e.exc 2).2.1 (raises_own (e.exc 2).2.2.1 (e.exc 2).2.2.2)))) sss_nil)) (sss_cons (by exact (ss_lockQ (locF 0 1 "rows") (ss_for (passes_of rfl) rfl (si_seq rfl (se_fld 1 (e.cls 8) (e.noat 9) (se_var 0))) (sg_tup 2 rfl rfl (sgs_cons (sg_name 2 sc_SizesInit.nd) (sgs_cons (sg_name 3 sc_SizesInit.nd) sgs_nil))) (b := L_SizesInit_b0) (by unfold L_SizesInit_b0; exact (sss_one (by exact (ss_expr (se_call (ok_checkMeasures e) (hr.mono (by decide)) (e.glo 4) (e.keep 0 (d := d_checkMeasures)) (b_checkMeasures e) tk (sa_cons (se_var 3) sa_nil))))))))) (sss_one (by exact (ss_for (passes_of rfl) rfl (si_zip rfl (e.free 11) (sa_cons (se_fld 1 (e.cls 8) (e.noat 9) (se_var 0)) (sa_cons (se_slice rfl (se_fld 1 (e.cls 8) (e.noat 9) (se_var 0)) (sp_some se_int) sp_none) sa_nil))) (sg_tup 2 rfl rfl (sgs_cons (sg_name 4 sc_SizesInit.nd) (sgs_cons (sg_name 5 sc_SizesInit.nd) sgs_nil))) (b := L_SizesInit_b1) (by unfold L_SizesInit_b1; exact (sss_one (by exact (ss_if (st_of (se_genB (own := [("name", 2)]) (k := 3) ⟨hr, (e.tab 2).1, rfl, rfl, (e.tab 2).2.1, (e.tab 2).2.2, sc_SizesInit.nd, rfl⟩ (GSc.by (by kernel_rfl)) (si_seq rfl (se_con e.con e.X e.N rfl (List.mem_of_getElem? (l := cs) (i := 0) rfl))) (use_any hr rfl rfl ⟨fun B0 s0 H0 cl0 C0 code0 fp0 hB0 => let hr1 := fun env => hB0.room (k := 3) (env := env) hr; ⟨by exact (sgc_name 2 sc_SizesInit.nd), by exact sts_nil, by exact (se_cmp od_gtI (se_item rfl (hu_of (hr1 _)) (se_item rfl (hu_of (hr1 _)) (se_var 4) se_int) (se_var 2)) (se_item rfl (hu_of (hr1 _)) (se_item rfl (hu_of (hr1 _)) (se_var 5) se_int) (se_var 2)))⟩⟩) (e.free 1))) (sss_one (by exact (ss_raise 0 rfl tk PySem.F.excBase_ValueError (e.exc 2).1 (e.glo 3) (e.exc 2).2.1 (raises_own (e.exc 2).2.2.1 (e.exc 2).2.2.2)))) sss_nil))))))))))
def N_SizesSize : List Str := ["self", "name", "one", "table"]
theorem sc_SizesSize : FnScope N_SizesSize ["self", "name"] (defScope s_SizesSize) := ⟨rfl, rfl, rfl, by decide +kernel, rfl, by decide +kernel, by decide +kernel⟩
def L_SizesSize_b0 : En → M Fl := (ifS (tst1 (bin2 eqA (getV 2) (getV 1))) (retS (dictV (consA (getV 3) nilA))) skip)
def dn_SizesSize : En → M Fl := (seqS (lockQ (locF 0 1 "rows") (forS (itSeq (fldE 1 "rows" (getV 0))) (tupG 2 (consG (nameG 2) (consG (nameG 3) nilG))) L_SizesSize_b0)) (fun _ => M.exc 0))
def D_SizesSize : List D → M D := bodyD 4 dn_SizesSize
theorem b_SizesSize (e : E w h K mg base) : L2.Binds K (fdOf K d_SizesSize.at_) ["self", "name"] [] := e.binds 3 (d := d_SizesSize) rfl (fun _ _ _ _ _ _ us hl => match us, hl with | [_, _], _ => rfl) rfl
theorem ok_SizesSize {lp : Nat → Addr → Addr → HO → HO → Prop} (e : E w h K mg base) : FnD P w mg base (GG K lp) 3 (He.fAd K d_SizesSize.at_) (fdOf K d_SizesSize.at_) ["self", "name"] D_SizesSize :=
  fnC_ok (G := GG K lp) (p := d_SizesSize.at_) (N := N_SizesSize) (k := 2) (fb := dn_SizesSize) (e.def_ 3 (d := d_SizesSize)) sc_SizesSize fun A outer s H E hr tk => by
  unfold dn_SizesSize
  exact (sss_cons (by exact (ss_lockQ (locF 0 1 "rows") (ss_for (passes_of rfl) rfl (si_seq rfl (se_fld 1 (e.cls 8) (e.noat 9) (se_var 0))) (sg_tup 2 rfl rfl (sgs_cons (sg_name 2 sc_SizesSize.nd) (sgs_cons (sg_name 3 sc_SizesSize.nd) sgs_nil))) (b := L_SizesSize_b0) (by unfold L_SizesSize_b0; exact (sss_one (by exact (ss_if (st_cmp (od_eqA rfl hr.units) (se_var 2) (se_var 1)) (sss_one (by exact (ss_ret (se_dictV rfl rfl (e.free 6) (sa_cons (se_var 3) sa_nil))))) sss_nil))))))) (sss_one (by exact (ss_raise 0 rfl tk PySem.F.excBase_ValueError (e.exc 2).1 (e.glo 3) (e.exc 2).2.1 (raises_own (e.exc 2).2.2.1 (e.exc 2).2.2.2)))))
def N_SizesNearest : List Str := ["self", "person", "best", "place", "name", "table", "row"]
theorem sc_SizesNearest : FnScope N_SizesNearest ["self", "person"] (defScope s_SizesNearest) := ⟨rfl, rfl, rfl, by decide +kernel, rfl, by decide +kernel, by decide +kernel⟩
def L_SizesNearest_b0 : En → M Fl := (seqS (setS 6 (tupV (consA (callE (consA (getV 1) (consA (getV 5) nilA)) (arg 2 D_far)) (consA (getV 3) (consA (getV 4) nilA))))) (setS 2 (ifV (orT (tst1 (bin2 isN (getV 2) (cst .non))) (tst1 (bin2 ltA (getV 6) (getV 2)))) (getV 6) (getV 2))))
def dn_SizesNearest : En → M Fl := (seqS (setS 2 (cst .non)) (seqS (lockQ (locF 0 1 "rows") (forS (enumS (fldE 1 "rows" (getV 0))) (tupG 2 (consG (nameG 3) (consG (tupG 2 (consG (nameG 4) (consG (nameG 5) nilG))) nilG))) L_SizesNearest_b0)) (retS (bin2 itemO (getV 2) (cst (.int 2))))))
def D_SizesNearest : List D → M D := bodyD 7 dn_SizesNearest
theorem b_SizesNearest (e : E w h K mg base) : L2.Binds K (fdOf K d_SizesNearest.at_) ["self", "person"] [] := e.binds 4 (d := d_SizesNearest) rfl (fun _ _ _ _ _ _ us hl => match us, hl with | [_, _], _ => rfl) rfl
theorem ok_SizesNearest {lp : Nat → Addr → Addr → HO → HO → Prop} (e : E w h K mg base) : FnD P w mg base (GG K lp) 6 (He.fAd K d_SizesNearest.at_) (fdOf K d_SizesNearest.at_) ["self", "person"] D_SizesNearest :=
  fnC_ok (G := GG K lp) (p := d_SizesNearest.at_) (N := N_SizesNearest) (k := 5) (fb := dn_SizesNearest) (e.def_ 4 (d := d_SizesNearest)) sc_SizesNearest fun A outer s H E hr tk => by
  unfold dn_SizesNearest
  exact (sss_cons (by exact (ss_set 2 se_non sc_SizesNearest.nd)) (sss_cons (by exact (ss_lockQ (locF 0 1 "rows") (ss_for (passes_of rfl) rfl (si_enum rfl (e.free 12) (se_fld 1 (e.cls 8) (e.noat 9) (se_var 0))) (sg_tup 2 rfl rfl (sgs_cons (sg_name 3 sc_SizesNearest.nd) (sgs_cons (sg_tup 2 rfl rfl (sgs_cons (sg_name 4 sc_SizesNearest.nd) (sgs_cons (sg_name 5 sc_SizesNearest.nd) sgs_nil))) sgs_nil))) (b := L_SizesNearest_b0) (by unfold L_SizesNearest_b0; exact (sss_cons (by exact (ss_set 6 (se_tup (sa_cons (se_call (ok_far e) (hr.mono (by decide)) (e.glo 13) (e.keep 1 (d := d_far)) (b_far e) tk (sa_cons (se_var 1) (sa_cons (se_var 5) sa_nil))) (sa_cons (se_var 3) (sa_cons (se_var 4) sa_nil)))) sc_SizesNearest.nd)) (sss_one (by exact (ss_set 2 (se_if (sw_or (st_cmp od_isN (se_var 2) se_non) (sw_or1 (st_cmp (od_ltA rfl hr.units) (se_var 6) (se_var 2)))).pt (se_var 6) (se_var 2)) sc_SizesNearest.nd)))))))) (sss_one (by exact (ss_ret (se_item rfl (hu_of hr) (se_var 2) se_int))))))
def N_SizesRoomy : List Str := ["self", "person", "name", "table", "one"]
theorem sc_SizesRoomy : FnScope N_SizesRoomy ["self", "person"] (defScope s_SizesRoomy) := ⟨rfl, rfl, rfl, by decide +kernel, rfl, by decide +kernel, by decide +kernel⟩
def L_SizesRoomy_b0 : En → M Fl := (ifS (tst1 (genE (itSeq (cst (.kt [.str "chest", .str "waist", .str "hip", .str "back", .str "sleeve"]))) [4] (nameG 4) yesT (bin2 leI (bin2 itemO (getV 1) (getV 4)) (bin2 itemO (getV 3) (getV 4))) (chkB false) (finB true))) (retS (getV 2)) skip)
def dn_SizesRoomy : En → M Fl := (seqS (exprS (callE (consA (getV 1) nilA) (arg 1 D_checkMeasures))) (seqS (lockQ (locF 0 1 "rows") (forS (itSeq (fldE 1 "rows" (getV 0))) (tupG 2 (consG (nameG 2) (consG (nameG 3) nilG))) L_SizesRoomy_b0)) (retS (cst .non))))
def D_SizesRoomy : List D → M D := bodyD 5 dn_SizesRoomy
theorem b_SizesRoomy (e : E w h K mg base) : L2.Binds K (fdOf K d_SizesRoomy.at_) ["self", "person"] [] := e.binds 5 (d := d_SizesRoomy) rfl (fun _ _ _ _ _ _ us hl => match us, hl with | [_, _], _ => rfl) rfl
theorem ok_SizesRoomy {lp : Nat → Addr → Addr → HO → HO → Prop} (e : E w h K mg base) : FnD P w mg base (GG K lp) 5 (He.fAd K d_SizesRoomy.at_) (fdOf K d_SizesRoomy.at_) ["self", "person"] D_SizesRoomy :=
  fnC_ok (G := GG K lp) (p := d_SizesRoomy.at_) (N := N_SizesRoomy) (k := 4) (fb := dn_SizesRoomy) (e.def_ 5 (d := d_SizesRoomy)) sc_SizesRoomy fun A outer s H E hr tk => by
  unfold dn_SizesRoomy
  exact (sss_cons (by exact (ss_expr (se_call (ok_checkMeasures e) (hr.mono (by decide)) (e.glo 4) (e.keep 0 (d := d_checkMeasures)) (b_checkMeasures e) tk (sa_cons (se_var 1) sa_nil)))) (sss_cons (by exact (ss_lockQ (locF 0 1 "rows") (ss_for (passes_of rfl) rfl (si_seq rfl (se_fld 1 (e.cls 8) (e.noat 9) (se_var 0))) (sg_tup 2 rfl rfl (sgs_cons (sg_name 2 sc_SizesRoomy.nd) (sgs_cons (sg_name 3 sc_SizesRoomy.nd) sgs_nil))) (b := L_SizesRoomy_b0) (by unfold L_SizesRoomy_b0; exact (sss_one (by exact (ss_if (st_of (se_genB (own := [("one", 4)]) (k := 3) ⟨hr, (e.tab 3).1, rfl, rfl, (e.tab 3).2.1, (e.tab 3).2.2, sc_SizesRoomy.nd, rfl⟩ (GSc.by (by kernel_rfl)) (si_seq rfl (se_con e.con e.X e.N rfl (List.mem_of_getElem? (l := cs) (i := 0) rfl))) (use_all hr rfl rfl ⟨fun B0 s0 H0 cl0 C0 code0 fp0 hB0 => let hr1 := fun env => hB0.room (k := 3) (env := env) hr; ⟨by exact (sgc_name 4 sc_SizesRoomy.nd), by exact sts_nil, by exact (se_cmp od_leI (se_item rfl (hu_of (hr1 _)) (se_var 1) (se_var 4)) (se_item rfl (hu_of (hr1 _)) (se_var 3) (se_var 4)))⟩⟩) (e.free 14))) (sss_one (by exact (ss_ret (se_var 2)))) sss_nil))))))) (sss_one (by exact (ss_ret se_non)))))
def N_SizesBetween : List Str := ["self", "low", "high", "part", "whole", "one", "other", "name"]
theorem sc_SizesBetween : FnScope N_SizesBetween ["self", "low", "high", "part", "whole"] (defScope s_SizesBetween) := ⟨rfl, rfl, rfl, by decide +kernel, rfl, by decide +kernel, by decide +kernel⟩
def dn_SizesBetween : En → M Fl := (seqS (asgS (tupV (consA (methE 1 "size" (getV 0) (consA (getV 1) nilA) (arg 2 D_SizesSize)) (consA (methE 1 "size" (getV 0) (consA (getV 2) nilA) (arg 2 D_SizesSize)) nilA))) (tupG 2 (consG (nameG 5) (consG (nameG 6) nilG)))) (seqS (ifS (orT (tst1 (bin2 ltA (getV 4) (cst (.int 1)))) (notT (tst1 (chainV leI leI (cst (.int 0)) (getV 3) (getV 4))))) (fun _ => M.exc 0) skip) (retS (dcE (itSeq (cst (.kt [.str "chest", .str "waist", .str "hip", .str "back", .str "sleeve"]))) [7] (nameG 7) yesT (getV 7) (bin2 fdvI (bin2 addA (bin2 mulA (cst (.int 2)) (bin2 addA (bin2 mulA (bin2 itemO (getV 5) (getV 7)) (bin2 subI (getV 4) (getV 3))) (bin2 mulA (bin2 itemO (getV 6) (getV 7)) (getV 3)))) (getV 4)) (bin2 mulA (cst (.int 2)) (getV 4)))))))
def D_SizesBetween : List D → M D := bodyD 8 dn_SizesBetween
theorem b_SizesBetween (e : E w h K mg base) : L2.Binds K (fdOf K d_SizesBetween.at_) ["self", "low", "high", "part", "whole"] [] := e.binds 6 (d := d_SizesBetween) rfl (fun _ _ _ _ _ _ us hl => match us, hl with | [_, _, _, _, _], _ => rfl) rfl
theorem ok_SizesBetween {lp : Nat → Addr → Addr → HO → HO → Prop} (e : E w h K mg base) : FnD P w mg base (GG K lp) 4 (He.fAd K d_SizesBetween.at_) (fdOf K d_SizesBetween.at_) ["self", "low", "high", "part", "whole"] D_SizesBetween :=
  fnC_ok (G := GG K lp) (p := d_SizesBetween.at_) (N := N_SizesBetween) (k := 3) (fb := dn_SizesBetween) (e.def_ 6 (d := d_SizesBetween)) sc_SizesBetween fun A outer s H E hr tk => by
  unfold dn_SizesBetween
  exact (sss_cons (by exact (ss_asg (se_tup (sa_cons (se_meth 1 (e.cls 8) (e.meth 15) (ok_SizesSize e) (hr.mono (by decide)) (b_SizesSize e) tk (se_var 0) (sa_cons (se_var 1) sa_nil)) (sa_cons (se_meth 1 (e.cls 8) (e.meth 15) (ok_SizesSize e) (hr.mono (by decide)) (b_SizesSize e) tk (se_var 0) (sa_cons (se_var 2) sa_nil)) sa_nil))) (sg_tup 2 rfl rfl (sgs_cons (sg_name 5 sc_SizesBetween.nd) (sgs_cons (sg_name 6 sc_SizesBetween.nd) sgs_nil))))) (sss_cons (by exact (ss_if (sw_or (st_cmp (od_ltA rfl hr.units) (se_var 4) se_int) (sw_or1 (st_not (st_chain od_leI od_leI se_int (se_var 3) (se_var 4))))).pt (sss_one (by exact (ss_raise 0 rfl tk PySem.F.excBase_ValueError (e.exc 2).1 (e.glo 3) (e.exc 2).2.1 (raises_own (e.exc 2).2.2.1 (e.exc 2).2.2.2)))) sss_nil)) (sss_one (by exact (ss_ret (se_dc (own := [("name", 7)]) rfl sc_SizesBetween.nd (si_seq rfl (se_con e.con e.X e.N rfl (List.mem_of_getElem? (l := cs) (i := 0) rfl))) (blkOk_by (by kernel_rfl)) (fun s0 H0 C0 cl0 fp0 => ⟨by exact (sgc_name 7 sc_SizesBetween.nd), by exact sts_nil, by exact (se_var 7), by exact (se_op od_fdvI (se_op od_addA (se_op od_mulA se_int (se_op od_addA (se_op od_mulA (se_item rfl (hu_of hr) (se_var 5) (se_var 7)) (se_op od_subI (se_var 4) (se_var 3))) (se_op od_mulA (se_item rfl (hu_of hr) (se_var 6) (se_var 7)) (se_var 3)))) (se_var 4)) (se_op od_mulA se_int (se_var 4)))⟩)))))))
def N_SizesAlterations : List Str := ["self", "person", "name", "table", "one"]
theorem sc_SizesAlterations : FnScope N_SizesAlterations ["self", "person", "name"] (defScope s_SizesAlterations) := ⟨rfl, rfl, rfl, by decide +kernel, rfl, by decide +kernel, by decide +kernel⟩
def dn_SizesAlterations : En → M Fl := (seqS (exprS (callE (consA (getV 1) nilA) (arg 1 D_checkMeasures))) (seqS (setS 3 (methE 1 "size" (getV 0) (consA (getV 2) nilA) (arg 2 D_SizesSize))) (retS (genE (itSeq (cst (.kt [.str "chest", .str "waist", .str "hip", .str "back", .str "sleeve"]))) [4] (nameG 4) (tst1 (bin2 neA (bin2 itemO (getV 1) (getV 4)) (bin2 itemO (getV 3) (getV 4)))) (tupV (consA (getV 4) (consA (bin2 subI (bin2 itemO (getV 1) (getV 4)) (bin2 itemO (getV 3) (getV 4))) nilA))) chkAll finTup))))
def D_SizesAlterations : List D → M D := bodyD 5 dn_SizesAlterations
theorem b_SizesAlterations (e : E w h K mg base) : L2.Binds K (fdOf K d_SizesAlterations.at_) ["self", "person", "name"] [] := e.binds 7 (d := d_SizesAlterations) rfl (fun _ _ _ _ _ _ us hl => match us, hl with | [_, _, _], _ => rfl) rfl
theorem ok_SizesAlterations {lp : Nat → Addr → Addr → HO → HO → Prop} (e : E w h K mg base) : FnD P w mg base (GG K lp) 5 (He.fAd K d_SizesAlterations.at_) (fdOf K d_SizesAlterations.at_) ["self", "person", "name"] D_SizesAlterations :=
  fnC_ok (G := GG K lp) (p := d_SizesAlterations.at_) (N := N_SizesAlterations) (k := 4) (fb := dn_SizesAlterations) (e.def_ 7 (d := d_SizesAlterations)) sc_SizesAlterations fun A outer s H E hr tk => by
  unfold dn_SizesAlterations
  exact (sss_cons (by exact (ss_expr (se_call (ok_checkMeasures e) (hr.mono (by decide)) (e.glo 4) (e.keep 0 (d := d_checkMeasures)) (b_checkMeasures e) tk (sa_cons (se_var 1) sa_nil)))) (sss_cons (by exact (ss_set 3 (se_meth 1 (e.cls 8) (e.meth 15) (ok_SizesSize e) (hr.mono (by decide)) (b_SizesSize e) tk (se_var 0) (sa_cons (se_var 2) sa_nil)) sc_SizesAlterations.nd)) (sss_one (by exact (ss_ret (se_genTy (own := [("one", 4)]) (k := 3) ⟨hr, (e.tab 4).1, rfl, rfl, (e.tab 4).2.1, (e.tab 4).2.2, sc_SizesAlterations.nd, rfl⟩ (GSc.by (by kernel_rfl)) (si_seq rfl (se_con e.con e.X e.N rfl (List.mem_of_getElem? (l := cs) (i := 0) rfl))) (use_tuple hr rfl rfl ⟨fun B0 s0 H0 cl0 C0 code0 fp0 hB0 => let hr1 := fun env => hB0.room (k := 3) (env := env) hr; ⟨by exact (sgc_name 4 sc_SizesAlterations.nd), by exact (sts_one (st_cmp (od_neA rfl (hr1 _).units) (se_item rfl (hu_of (hr1 _)) (se_var 1) (se_var 4)) (se_item rfl (hu_of (hr1 _)) (se_var 3) (se_var 4)))), by exact (se_tup (sa_cons (se_var 4) (sa_cons (se_op od_subI (se_item rfl (hu_of (hr1 _)) (se_var 1) (se_var 4)) (se_item rfl (hu_of (hr1 _)) (se_var 3) (se_var 4))) sa_nil)))⟩⟩) (e.free 7)))))))
def N_grouped : List Str := ["people", "many", "names", "best", "left", "heads", "start", "rows", "total", "name", "ranked", "row", "place", "head", "one"]
theorem sc_grouped : FnScope N_grouped ["people", "many"] (defScope s_grouped) := ⟨rfl, rfl, rfl, by decide +kernel, rfl, by decide +kernel, by decide +kernel⟩
def L_grouped_b0 : En → M Fl := (seqS (setS 10 (lockQ (locV 5) (genE (enumS (getV 5)) [12, 13] (tupG 2 (consG (nameG 12) (consG (nameG 13) nilG))) yesT (tupV (consA (callE (consA (bin2 itemO (getV 0) (getV 9)) (consA (bin2 itemO (getV 0) (getV 13)) nilA)) (arg 2 D_far)) (consA (getV 12) nilA))) chkAll (finSrt false)))) (seqS (ifS (tst1 (bin2 inO (getV 9) (getV 5))) (setS 10 (lstV (consA (tupV (consA (cst (.int 0)) (consA (tmE (getV 5) (consA (getV 9) nilA)) nilA))) nilA))) skip) (seqS (exprS (bmE "list" (bin2 itemO (getV 7) (bin2 itemO (bin2 itemO (getV 10) (cst (.int 0))) (cst (.int 1)))) (consA (getV 9) nilA) appM)) (augS 8 addI (bin2 itemO (bin2 itemO (getV 10) (cst (.int 0))) (cst (.int 0)))))))
def L_grouped_b1 : En → M Fl := (exprS (bmE "list" (getV 4) (consA (tupV (consA (bin2 addF (getV 5) (tupF (consA (bin2 itemO (getV 2) (getV 12)) nilA))) (consA (bin2 addA (getV 12) (cst (.int 1))) nilA))) nilA) appM))
def L_grouped_b2 : En → M Fl := (seqS (asgS (bmE "list" (getV 4) nilA popM) (tupG 2 (consG (nameG 5) (consG (nameG 6) nilG)))) (seqS (ifS (tst1 (bin2 eqA (callE (consA (getV 5) nilA) lenC) (getV 1))) (seqS (lockQ (locV 5) (setS 7 (genE (itSeq (getV 5)) [13] (nameG 13) yesT (lstO nilA) chkAll finLst))) (seqS (setS 8 (cst (.int 0))) (seqS (lockQ (locV 2) (forS (itSeq (getV 2)) (nameG 9) L_grouped_b0)) (seqS (setS 11 (tupV (consA (getV 8) (consA (getV 5) (consA (lockQ (locV 7) (genE (itSeq (getV 7)) [14] (nameG 14) yesT (callE (consA (getV 14) nilA) tupC) chkAll finTup)) nilA))))) (seqS (setS 3 (ifV (orT (tst1 (bin2 isN (getV 3) (cst .non))) (tst1 (bin2 ltA (getV 11) (getV 3)))) (getV 11) (getV 3))) (fun σ => M.pure (Fl.ct σ))))))) skip) (forS (rngA (consA (getV 6) (consA (callE (consA (getV 2) nilA) lenC) nilA))) (nameG 12) L_grouped_b1)))
def L_grouped_t0 : En → M Bool := (tst1 (bin2 neA (getV 4) (lstV nilA)))
def dn_grouped : En → M Fl := (seqS (setS 2 (callE (consA (getV 0) nilA) (sortedA false))) (seqS (ifS (orT (tst1 (bin2 gtI (callE (consA (getV 2) nilA) lenC) (cst (.int 8)))) (notT (tst1 (chainV leI leI (cst (.int 1)) (getV 1) (callE (consA (getV 2) nilA) lenC))))) (fun _ => M.exc 0) skip) (seqS (parS 3 4 (consA (cst .non) (consA (lstO (consA (tupV (consA (tupF nilA) (consA (cst (.int 0)) nilA))) nilA)) nilA))) (seqS (whileM L_grouped_t0 L_grouped_b2 100000) (retS (tupV (consA (bin2 itemO (getV 3) (cst (.int 0))) (consA (bin2 itemO (getV 3) (cst (.int 2))) nilA))))))))
def D_grouped : List D → M D := freshD (bodyD 15 dn_grouped)
theorem b_grouped (e : E w h K mg base) : L2.Binds K (fdOf K d_grouped.at_) ["people", "many"] [] := e.binds 8 (d := d_grouped) rfl (fun _ _ _ _ _ _ us hl => match us, hl with | [_, _], _ => rfl) rfl
theorem ok_grouped {lp : Nat → Addr → Addr → HO → HO → Prop} (e : E w h K mg base) : FnD P w mg base (GG K lp) 7 (He.fAd K d_grouped.at_) (fdOf K d_grouped.at_) ["people", "many"] D_grouped :=
  fnD_fresh <| fnC_ok (G := GG K lp) (p := d_grouped.at_) (N := N_grouped) (k := 6) (fb := dn_grouped) (e.def_ 8 (d := d_grouped)) sc_grouped fun A outer s H E hr tk => by
  unfold dn_grouped
  exact (sss_cons (by exact (ss_set 2 (se_callB (cd_sortedA false rfl rfl hr.units) (e.free 0) (sa_cons (se_var 0) sa_nil)) sc_grouped.nd)) (sss_cons (by exact (ss_if (sw_or (st_cmp od_gtI (se_callB (cd_len rfl) (e.free 10) (sa_cons (se_var 2) sa_nil)) se_int) (sw_or1 (st_not (st_chain od_leI od_leI se_int (se_var 1) (se_callB (cd_len rfl) (e.free 10) (sa_cons (se_var 2) sa_nil)))))).pt (sss_one (by exact (ss_raise 0 rfl tk PySem.F.excBase_ValueError (e.exc 2).1 (e.glo 3) (e.exc 2).2.1 (raises_own (e.exc 2).2.2.1 (e.exc 2).2.2.2)))) sss_nil)) (sss_cons (by exact (ss_par 3 4 rfl sc_grouped.nd (sa_cons se_non (sa_cons (se_lstO (sa_cons (se_tup (sa_cons (se_tupF sa_nil) (sa_cons se_int sa_nil))) sa_nil)) sa_nil)))) (sss_cons (by exact (ss_while (tb := L_grouped_t0) (b := L_grouped_b2) 100000 (passes_of rfl) (by unfold L_grouped_t0; exact (st_cmp (od_neA rfl hr.units) (se_var 4) (se_lstV sa_nil))) (by unfold L_grouped_b2; exact (sss_cons (by exact (ss_asg (se_bm0 PySem.F.plainAttrs_list PySem.F.slot_list_pop PySem.F.type_list_pop mt_popD (se_var 4)) (sg_tup 2 rfl rfl (sgs_cons (sg_name 5 sc_grouped.nd) (sgs_cons (sg_name 6 sc_grouped.nd) sgs_nil))))) (sss_cons (by exact (ss_if (st_cmp (od_eqA rfl hr.units) (se_callB (cd_len rfl) (e.free 10) (sa_cons (se_var 5) sa_nil)) (se_var 1)) (sss_cons (by exact (ss_lockQ (locV 5) (ss_setLc (own := [("head", 13)]) 7 finLst rfl sc_grouped.nd finL_lst (si_seq rfl (se_var 5)) (blkOk_by (by kernel_rfl)) (.of fun s0 H0 C0 cl0 fp0 => ⟨by exact (sgc_name 13 sc_grouped.nd), by exact sts_nil, by exact (se_lstO sa_nil)⟩)))) (sss_cons (by exact (ss_set 8 se_int sc_grouped.nd)) (sss_cons (by exact (ss_lockQ (locV 2) (ss_for (passes_of rfl) rfl (si_seq rfl (se_var 2)) (sg_name 9 sc_grouped.nd) (b := L_grouped_b0) (by unfold L_grouped_b0; exact (sss_cons (by exact (ss_set 10 (se_lockQ (locV 5) (se_genB (own := [("place", 12), ("head", 13)]) (k := 5) ⟨hr, (e.tab 5).1, rfl, rfl, (e.tab 5).2.1, (e.tab 5).2.2, sc_grouped.nd, rfl⟩ (GSc.by (by kernel_rfl)) (si_enum rfl (e.free 12) (se_var 5)) (use_sorted false rfl hr rfl rfl ⟨fun B0 s0 H0 cl0 C0 code0 fp0 hB0 => let hr1 := fun env => hB0.room (k := 5) (env := env) hr; ⟨by exact (sgc_tup 2 rfl rfl (sgcs_cons (sgc_name 12 sc_grouped.nd) (sgcs_cons (sgc_name 13 sc_grouped.nd) sgcs_nil))), by exact sts_nil, by exact (se_tup (sa_cons (se_call (ok_far e) ((hr1 _).mono (by decide)) (e.glo 13) (e.keep 1 (d := d_far)) (b_far e) takesN (sa_cons (se_item rfl (hu_of (hr1 _)) (se_var 0) (se_var 9)) (sa_cons (se_item rfl (hu_of (hr1 _)) (se_var 0) (se_var 13)) sa_nil))) (sa_cons (se_var 12) sa_nil)))⟩⟩) (e.free 0))) sc_grouped.nd)) (sss_cons (by exact (ss_if (st_in rfl hr.units (se_var 9) (se_var 5)) (sss_one (by exact (ss_set 10 (se_lstV (sa_cons (se_tup (sa_cons se_int (sa_cons (se_tind (se_var 5) (sa_cons (se_var 9) sa_nil)) sa_nil))) sa_nil)) sc_grouped.nd))) sss_nil)) (sss_cons (by exact (ss_expr (se_bm PySem.F.plainAttrs_list PySem.F.slot_list_append PySem.F.type_list_append mt_app (se_item rfl (hu_of hr) (se_var 7) (se_item rfl (hu_of hr) (se_item rfl (hu_of hr) (se_var 10) se_int) se_int)) (sa_cons (se_var 9) sa_nil)))) (sss_one (by exact (ss_aug 8 sc_grouped.nd od_iaddI (se_item rfl (hu_of hr) (se_item rfl (hu_of hr) (se_var 10) se_int) se_int))))))))))) (sss_cons (by exact (ss_set 11 (se_tup (sa_cons (se_var 8) (sa_cons (se_var 5) (sa_cons (se_lockQ (locV 7) (se_genTy (own := [("one", 14)]) (k := 5) ⟨hr, (e.tab 5).1, rfl, rfl, (e.tab 5).2.1, (e.tab 5).2.2, sc_grouped.nd, rfl⟩ (GSc.by (by kernel_rfl)) (si_seq rfl (se_var 7)) (use_tuple hr rfl rfl ⟨fun B0 s0 H0 cl0 C0 code0 fp0 hB0 => let hr1 := fun env => hB0.room (k := 5) (env := env) hr; ⟨by exact (sgc_name 14 sc_grouped.nd), by exact sts_nil, by exact (se_callTy (cd_tup rfl) (e.free 7) (sa_cons (se_var 14) sa_nil))⟩⟩) (e.free 7))) sa_nil)))) sc_grouped.nd)) (sss_cons (by exact (ss_set 3 (se_if (sw_or (st_cmp od_isN (se_var 3) se_non) (sw_or1 (st_cmp (od_ltA rfl hr.units) (se_var 11) (se_var 3)))).pt (se_var 11) (se_var 3)) sc_grouped.nd)) (sss_one (by exact ss_cont))))))) sss_nil)) (sss_one (by exact (ss_for (passes_of rfl) rfl (si_range2 (e.free 16) (sa_cons (se_var 6) (sa_cons (se_callB (cd_len rfl) (e.free 10) (sa_cons (se_var 2) sa_nil)) sa_nil))) (sg_name 12 sc_grouped.nd) (b := L_grouped_b1) (by unfold L_grouped_b1; exact (sss_one (by exact (ss_expr (se_bm PySem.F.plainAttrs_list PySem.F.slot_list_append PySem.F.type_list_append mt_app (se_var 4) (sa_cons (se_tup (sa_cons (se_op od_addF (se_var 5) (se_tupF (sa_cons (se_item rfl (hu_of hr) (se_var 2) (se_var 12)) sa_nil))) (sa_cons (se_op od_addA (se_var 12) se_int) sa_nil))) sa_nil)))))))))))))) (sss_one (by exact (ss_ret (se_tup (sa_cons (se_item rfl (hu_of hr) (se_var 3) se_int) (sa_cons (se_item rfl (hu_of hr) (se_var 3) se_int) sa_nil))))))))))
def N_lawDice : List Str := ["cell"]
theorem sc_lawDice : FnScope N_lawDice ["cell"] (defScope s_lawDice) := ⟨rfl, rfl, rfl, by decide +kernel, rfl, by decide +kernel, by decide +kernel⟩
def dn_lawDice : En → M Fl := (seqS (ifS (tst1 (chainV ltA ltA (bin2 subI (cst (.int 0)) (cst (.int 10))) (getV 0) (cst (.int 10)))) (retS (lstO (consA (callE (consA (getV 0) nilA) absC) (consA (cst (.int 0)) (consA (cst (.int 2)) nilA))))) skip) (retS (lstO (consA (getV 0) (consA (bin2 addA (cst (.int 1)) (bin2 modI (callE (consA (getV 0) nilA) intC) (cst (.int 1009)))) (consA (callE (consA (bin2 geI (getV 0) (bin2 powI (cst (.int 10)) (cst (.int 18)))) nilA) intC) nilA))))))
def D_lawDice : List D → M D := bodyD 1 dn_lawDice
theorem b_lawDice (e : E w h K mg base) : L2.Binds K (fdOf K d_lawDice.at_) ["cell"] [] := e.binds 9 (d := d_lawDice) rfl (fun _ _ _ _ _ _ us hl => match us, hl with | [_], _ => rfl) rfl
theorem ok_lawDice {lp : Nat → Addr → Addr → HO → HO → Prop} (e : E w h K mg base) : FnD P w mg base (GG K lp) 3 (He.fAd K d_lawDice.at_) (fdOf K d_lawDice.at_) ["cell"] D_lawDice :=
  fnC_ok (G := GG K lp) (p := d_lawDice.at_) (N := N_lawDice) (k := 2) (fb := dn_lawDice) (e.def_ 9 (d := d_lawDice)) sc_lawDice fun A outer s H E hr tk => by
  unfold dn_lawDice
  exact (sss_cons (by exact (ss_if (st_chain (od_ltA rfl hr.units) (od_ltA rfl hr.units) (se_op od_subI se_int se_int) (se_var 0) se_int) (sss_one (by exact (ss_ret (se_lstO (sa_cons (se_callB cd_abs (e.free 17) (sa_cons (se_var 0) sa_nil)) (sa_cons se_int (sa_cons se_int sa_nil))))))) sss_nil)) (sss_one (by exact (ss_ret (se_lstO (sa_cons (se_var 0) (sa_cons (se_op od_addA se_int (se_op od_modI (se_callTy cd_int (e.free 18) (sa_cons (se_var 0) sa_nil)) se_int)) (sa_cons (se_callTy cd_int (e.free 18) (sa_cons (se_cmp od_geI (se_var 0) (se_op od_powI se_int se_int)) sa_nil)) sa_nil))))))))
def N_lawRoll : List Str := ["dice", "many", "found"]
theorem sc_lawRoll : FnScope N_lawRoll ["dice", "many"] (defScope s_lawRoll) := ⟨rfl, rfl, rfl, by decide +kernel, rfl, by decide +kernel, by decide +kernel⟩
def dn_lawRoll : En → M Fl := (seqS (ifS (orT (tst1 (bin2 eqA (bin2 itemO (getV 0) (cst (.int 2))) (cst (.int 2)))) (andT (tst1 (bin2 eqA (bin2 itemO (getV 0) (cst (.int 2))) (cst (.int 1)))) (tst1 (bin2 gtI (bin2 itemO (getV 0) (cst (.int 0))) (cst (.int 0)))))) (seqS (setS 2 (bin2 modI (callE (consA (bin2 itemO (getV 0) (cst (.int 0))) nilA) intC) (getV 1))) (seqS (asgS (bin2 fdvI (bin2 itemO (getV 0) (cst (.int 0))) (getV 1)) (subG (getV 0) (cst (.int 0)))) (retS (getV 2)))) skip) (seqS (asgS (cst (.int 0)) (subG (getV 0) (cst (.int 2)))) (seqS (ifS (tst1 (bin2 gtI (getV 1) (cst (.int 100000000)))) (retS (bin2 modI (callE (consA (bin2 addA (bin2 mulA (callE (consA (getV 0) (consA (bin2 addA (bin2 fdvI (getV 1) (cst (.int 100000000))) (cst (.int 1))) nilA)) (arg 2 (fun _ => M.stk))) (cst (.int 100000000))) (callE (consA (getV 0) (consA (cst (.int 100000000)) nilA)) (arg 2 (fun _ => M.stk)))) nilA) intC) (getV 1))) skip) (seqS (asgS (bin2 modI (callE (consA (bin2 addA (bin2 addA (bin2 mulA (bin2 itemO (getV 0) (cst (.int 0))) (cst (.int 48271))) (bin2 mulA (bin2 itemO (getV 0) (cst (.int 1))) (cst (.int 69621)))) (cst (.int 11))) nilA) intC) (cst (.int 2147483647))) (subG (getV 0) (cst (.int 0)))) (seqS (asgS (bin2 addA (bin2 itemO (getV 0) (cst (.int 1))) (cst (.int 1))) (subG (getV 0) (cst (.int 1)))) (retS (bin2 modI (callE (consA (bin2 fdvI (bin2 itemO (getV 0) (cst (.int 0))) (cst (.int 7))) nilA) intC) (getV 1))))))))
def D_lawRoll : List D → M D := bodyD 3 dn_lawRoll
theorem b_lawRoll (e : E w h K mg base) : L2.Binds K (fdOf K d_lawRoll.at_) ["dice", "many"] [] := e.binds 10 (d := d_lawRoll) rfl (fun _ _ _ _ _ _ us hl => match us, hl with | [_, _], _ => rfl) rfl
theorem ok_lawRoll {lp : Nat → Addr → Addr → HO → HO → Prop} (e : E w h K mg base) : FnD P w mg base (GG K lp) 3 (He.fAd K d_lawRoll.at_) (fdOf K d_lawRoll.at_) ["dice", "many"] D_lawRoll :=
  fnC_ok (G := GG K lp) (p := d_lawRoll.at_) (N := N_lawRoll) (k := 2) (fb := dn_lawRoll) (e.def_ 10 (d := d_lawRoll)) sc_lawRoll fun A outer s H E hr tk => by
  unfold dn_lawRoll
  exact (sss_cons (by exact (ss_if (sw_or (st_cmp (od_eqA rfl hr.units) (se_item rfl (hu_of hr) (se_var 0) se_int) se_int) (sw_or1 (sw_and (st_cmp (od_eqA rfl hr.units) (se_item rfl (hu_of hr) (se_var 0) se_int) se_int) (sw_and1 (st_cmp od_gtI (se_item rfl (hu_of hr) (se_var 0) se_int) se_int))).pt)).pt (sss_cons (by exact (ss_set 2 (se_op od_modI (se_callTy cd_int (e.free 18) (sa_cons (se_item rfl (hu_of hr) (se_var 0) se_int) sa_nil)) (se_var 1)) sc_lawRoll.nd)) (sss_cons (by exact (ss_asg (se_op od_fdvI (se_item rfl (hu_of hr) (se_var 0) se_int) (se_var 1)) (sg_sub (hu_of hr) (se_var 0) se_int))) (sss_one (by exact (ss_ret (se_var 2)))))) sss_nil)) (sss_cons (by exact (ss_asg se_int (sg_sub (hu_of hr) (se_var 0) se_int))) (sss_cons (by exact (ss_if (st_cmp od_gtI (se_var 1) se_int) (sss_one (by exact (ss_ret (se_op od_modI (se_callTy cd_int (e.free 18) (sa_cons (se_op od_addA (se_op od_mulA (se_call (k := 2) (fd := fdOf K d_lawRoll.at_) (ps := ["dice", "many"]) (fnD_stk (G := GG K lp)) (hr.mono (by decide)) (e.glo 19) (e.keep 10 (d := d_lawRoll)) (b_lawRoll e) tk (sa_cons (se_var 0) (sa_cons (se_op od_addA (se_op od_fdvI (se_var 1) se_int) se_int) sa_nil))) se_int) (se_call (k := 2) (fd := fdOf K d_lawRoll.at_) (ps := ["dice", "many"]) (fnD_stk (G := GG K lp)) (hr.mono (by decide)) (e.glo 19) (e.keep 10 (d := d_lawRoll)) (b_lawRoll e) tk (sa_cons (se_var 0) (sa_cons se_int sa_nil)))) sa_nil)) (se_var 1))))) sss_nil)) (sss_cons (by exact (ss_asg (se_op od_modI (se_callTy cd_int (e.free 18) (sa_cons (se_op od_addA (se_op od_addA (se_op od_mulA (se_item rfl (hu_of hr) (se_var 0) se_int) se_int) (se_op od_mulA (se_item rfl (hu_of hr) (se_var 0) se_int) se_int)) se_int) sa_nil)) se_int) (sg_sub (hu_of hr) (se_var 0) se_int))) (sss_cons (by exact (ss_asg (se_op od_addA (se_item rfl (hu_of hr) (se_var 0) se_int) se_int) (sg_sub (hu_of hr) (se_var 0) se_int))) (sss_one (by exact (ss_ret (se_op od_modI (se_callTy cd_int (e.free 18) (sa_cons (se_op od_fdvI (se_item rfl (hu_of hr) (se_var 0) se_int) se_int) sa_nil)) (se_var 1))))))))))
def N_lawRounds : List Str := ["script", "most", "cells", "cell"]
theorem sc_lawRounds : FnScope N_lawRounds ["script", "most"] (defScope s_lawRounds) := ⟨rfl, rfl, rfl, by decide +kernel, rfl, by decide +kernel, by decide +kernel⟩
def dn_lawRounds : En → M Fl := (seqS (setS 2 (sliceE (getV 0) none (some (getV 1)))) (seqS (ifS (tst1 (bin2 eqA (getV 2) (lstV nilA))) (setS 2 (lstV (consA (cst (.int 0)) nilA))) skip) (retS (lockQ (locV 2) (genE (itSeq (getV 2)) [3] (nameG 3) yesT (callE (consA (getV 3) nilA) (arg 1 D_lawDice)) chkAll finLst)))))
def D_lawRounds : List D → M D := bodyD 4 dn_lawRounds
theorem b_lawRounds (e : E w h K mg base) : L2.Binds K (fdOf K d_lawRounds.at_) ["script", "most"] [] := e.binds 11 (d := d_lawRounds) rfl (fun _ _ _ _ _ _ us hl => match us, hl with | [_, _], _ => rfl) rfl
theorem ok_lawRounds {lp : Nat → Addr → Addr → HO → HO → Prop} (e : E w h K mg base) : FnD P w mg base (GG K lp) 4 (He.fAd K d_lawRounds.at_) (fdOf K d_lawRounds.at_) ["script", "most"] D_lawRounds :=
  fnC_ok (G := GG K lp) (p := d_lawRounds.at_) (N := N_lawRounds) (k := 3) (fb := dn_lawRounds) (e.def_ 11 (d := d_lawRounds)) sc_lawRounds fun A outer s H E hr tk => by
  unfold dn_lawRounds
  exact (sss_cons (by exact (ss_set 2 (se_slice rfl (se_var 0) sp_none (sp_some (se_var 1))) sc_lawRounds.nd)) (sss_cons (by exact (ss_if (st_cmp (od_eqA rfl hr.units) (se_var 2) (se_lstV sa_nil)) (sss_one (by exact (ss_set 2 (se_lstV (sa_cons se_int sa_nil)) sc_lawRounds.nd))) sss_nil)) (sss_one (by exact (ss_ret (se_lockQ (locV 2) (se_lc (own := [("cell", 3)]) finLst rfl sc_lawRounds.nd finL_lst (si_seq rfl (se_var 2)) (blkOk_by (by kernel_rfl)) (.of fun s0 H0 C0 cl0 fp0 => ⟨by exact (sgc_name 3 sc_lawRounds.nd), by exact sts_nil, by exact (se_call (ok_lawDice e) (hr.mono (by decide)) (e.glo 20) (e.keep 9 (d := d_lawDice)) (b_lawDice e) takesN (sa_cons (se_var 3) sa_nil))⟩))))))))
def N_lawPerson : List Str := ["dice", "name"]
theorem sc_lawPerson : FnScope N_lawPerson ["dice"] (defScope s_lawPerson) := ⟨rfl, rfl, rfl, by decide +kernel, rfl, by decide +kernel, by decide +kernel⟩
def dn_lawPerson : En → M Fl := (retS (dictV (consA (genE (itSeq (lstV (consA (cst (.str "chest")) (consA (cst (.str "waist")) (consA (cst (.str "hip")) (consA (cst (.str "back")) (consA (cst (.str "sleeve")) nilA))))))) [1] (nameG 1) yesT (tupV (consA (getV 1) (consA (bin2 addA (cst (.int 400)) (callE (consA (getV 0) (consA (cst (.int 700)) nilA)) (arg 2 D_lawRoll))) nilA))) chkAll finLst) nilA)))
def D_lawPerson : List D → M D := bodyD 2 dn_lawPerson
theorem b_lawPerson (e : E w h K mg base) : L2.Binds K (fdOf K d_lawPerson.at_) ["dice"] [] := e.binds 13 (d := d_lawPerson) rfl (fun _ _ _ _ _ _ us hl => match us, hl with | [_], _ => rfl) rfl
theorem ok_lawPerson {lp : Nat → Addr → Addr → HO → HO → Prop} (e : E w h K mg base) : FnD P w mg base (GG K lp) 4 (He.fAd K d_lawPerson.at_) (fdOf K d_lawPerson.at_) ["dice"] D_lawPerson :=
  fnC_ok (G := GG K lp) (p := d_lawPerson.at_) (N := N_lawPerson) (k := 3) (fb := dn_lawPerson) (e.def_ 13 (d := d_lawPerson)) sc_lawPerson fun A outer s H E hr tk => by
  unfold dn_lawPerson
  exact (sss_one (by exact (ss_ret (se_dictV rfl rfl (e.free 6) (sa_cons (se_lc (own := [("name", 1)]) finLst rfl sc_lawPerson.nd finL_lst (si_seq rfl (se_lstV (sa_cons se_str (sa_cons se_str (sa_cons se_str (sa_cons se_str (sa_cons se_str sa_nil))))))) (blkOk_by (by kernel_rfl)) (.of fun s0 H0 C0 cl0 fp0 => ⟨by exact (sgc_name 1 sc_lawPerson.nd), by exact sts_nil, by exact (se_tup (sa_cons (se_var 1) (sa_cons (se_op od_addA se_int (se_call (ok_lawRoll e) (hr.mono (by decide)) (e.glo 19) (e.keep 10 (d := d_lawRoll)) (b_lawRoll e) takesN (sa_cons (se_var 0) (sa_cons se_int sa_nil)))) sa_nil)))⟩)) sa_nil)))))
def N_lawFar : List Str := ["one", "other", "weights", "name"]
theorem sc_lawFar : FnScope N_lawFar ["one", "other"] (defScope s_lawFar) := ⟨rfl, rfl, rfl, by decide +kernel, rfl, by decide +kernel, by decide +kernel⟩
def dn_lawFar : En → M Fl := (seqS (setS 2 (dispE (((cst (.str "chest")), (cst (.int 4))) :: (((cst (.str "waist")), (cst (.int 3))) :: (((cst (.str "hip")), (cst (.int 3))) :: (((cst (.str "back")), (cst (.int 1))) :: (((cst (.str "sleeve")), (cst (.int 1))) :: []))))))) (retS (callE (consA (lockQ (locV 2) (genE (itSeq (getV 2)) [3] (nameG 3) yesT (bin2 mulA (bin2 mulA (bin2 itemO (getV 2) (getV 3)) (bin2 subI (bin2 itemO (getV 0) (getV 3)) (bin2 itemO (getV 1) (getV 3)))) (bin2 subI (bin2 itemO (getV 0) (getV 3)) (bin2 itemO (getV 1) (getV 3)))) chkAll finLst)) nilA) sumC)))
def D_lawFar : List D → M D := bodyD 4 dn_lawFar
theorem b_lawFar (e : E w h K mg base) : L2.Binds K (fdOf K d_lawFar.at_) ["one", "other"] [] := e.binds 14 (d := d_lawFar) rfl (fun _ _ _ _ _ _ us hl => match us, hl with | [_, _], _ => rfl) rfl
theorem ok_lawFar {lp : Nat → Addr → Addr → HO → HO → Prop} (e : E w h K mg base) : FnD P w mg base (GG K lp) 3 (He.fAd K d_lawFar.at_) (fdOf K d_lawFar.at_) ["one", "other"] D_lawFar :=
  fnC_ok (G := GG K lp) (p := d_lawFar.at_) (N := N_lawFar) (k := 2) (fb := dn_lawFar) (e.def_ 14 (d := d_lawFar)) sc_lawFar fun A outer s H E hr tk => by
  unfold dn_lawFar
  exact (sss_cons (by exact (ss_set 2 (se_disp (fps := (((cst (.str "chest")), (cst (.int 4))) :: (((cst (.str "waist")), (cst (.int 3))) :: (((cst (.str "hip")), (cst (.int 3))) :: (((cst (.str "back")), (cst (.int 1))) :: (((cst (.str "sleeve")), (cst (.int 1))) :: [])))))) (pps_cons se_str se_int (pps_cons se_str se_int (pps_cons se_str se_int (pps_cons se_str se_int (pps_cons se_str se_int pps_nil)))))) sc_lawFar.nd)) (sss_one (by exact (ss_ret (se_callB (cd_sum rfl) (e.free 5) (sa_cons (se_lockQ (locV 2) (se_lc (own := [("name", 3)]) finLst rfl sc_lawFar.nd finL_lst (si_seq rfl (se_var 2)) (blkOk_by (by kernel_rfl)) (.of fun s0 H0 C0 cl0 fp0 => ⟨by exact (sgc_name 3 sc_lawFar.nd), by exact sts_nil, by exact (se_op od_mulA (se_op od_mulA (se_item rfl (hu_of hr) (se_var 2) (se_var 3)) (se_op od_subI (se_item rfl (hu_of hr) (se_var 0) (se_var 3)) (se_item rfl (hu_of hr) (se_var 1) (se_var 3)))) (se_op od_subI (se_item rfl (hu_of hr) (se_var 0) (se_var 3)) (se_item rfl (hu_of hr) (se_var 1) (se_var 3))))⟩))) sa_nil))))))
def N_lawHeads : List Str := ["names", "many", "found", "k", "name", "rest"]
theorem sc_lawHeads : FnScope N_lawHeads ["names", "many"] (defScope s_lawHeads) := ⟨rfl, rfl, rfl, by decide +kernel, rfl, by decide +kernel, by decide +kernel⟩
def L_lawHeads_b0 (rc : List D → M D) : En → M Fl := (setS 2 (bin2 addA (getV 2) (genE (itSeq (callE (consA (sliceE (getV 0) (some (bin2 addA (getV 3) (cst (.int 1)))) none) (consA (bin2 subI (getV 1) (cst (.int 1))) nilA)) (arg 2 rc))) [5] (nameG 5) yesT (bin2 addF (tupF (consA (getV 4) nilA)) (getV 5)) chkAll finLst)))
def dn_lawHeads (rc : List D → M D) : En → M Fl := (seqS (ifS (tst1 (bin2 eqA (getV 1) (cst (.int 0)))) (retS (lstV (consA (tupF nilA) nilA))) skip) (seqS (setS 2 (lstV nilA)) (seqS (lockQ (locV 0) (forS (enumS (getV 0)) (tupG 2 (consG (nameG 3) (consG (nameG 4) nilG))) (L_lawHeads_b0 rc))) (retS (getV 2)))))
def D_lawHeads : Nat → List D → M D
  | 0 => fun _ => M.stk
  | n + 1 => bodyD 6 (dn_lawHeads (D_lawHeads n))
theorem b_lawHeads (e : E w h K mg base) : L2.Binds K (fdOf K d_lawHeads.at_) ["names", "many"] [] := e.binds 15 (d := d_lawHeads) rfl (fun _ _ _ _ _ _ us hl => match us, hl with | [_, _], _ => rfl) rfl
theorem ok_lawHeads {lp : Nat → Addr → Addr → HO → HO → Prop} (e : E w h K mg base) : ∀ n, FnD P w mg base (GG K lp) (n + 3) (He.fAd K d_lawHeads.at_) (fdOf K d_lawHeads.at_) ["names", "many"] (D_lawHeads n)
  | 0 => fnD_stk
  | n + 1 => fnC_ok (G := GG K lp) (p := d_lawHeads.at_) (N := N_lawHeads) (k := n + 3) (fb := dn_lawHeads (D_lawHeads n)) (e.def_ 15 (d := d_lawHeads)) sc_lawHeads fun A outer s H E hr tk => by
    unfold dn_lawHeads
    exact (sss_cons (by exact (ss_if (st_cmp (od_eqA rfl hr.units) (se_var 1) se_int) (sss_one (by exact (ss_ret (se_lstV (sa_cons (se_tupF sa_nil) sa_nil))))) sss_nil)) (sss_cons (by exact (ss_set 2 (se_lstV sa_nil) sc_lawHeads.nd)) (sss_cons (by exact (ss_lockQ (locV 0) (ss_for (passes_of rfl) rfl (si_enum rfl (e.free 12) (se_var 0)) (sg_tup 2 rfl rfl (sgs_cons (sg_name 3 sc_lawHeads.nd) (sgs_cons (sg_name 4 sc_lawHeads.nd) sgs_nil))) (b := (L_lawHeads_b0 (D_lawHeads n))) (by unfold L_lawHeads_b0; exact (sss_one (by exact (ss_set 2 (se_op od_addA (se_var 2) (se_lc (own := [("rest", 5)]) finLst rfl sc_lawHeads.nd finL_lst (si_seq rfl (se_call (ok_lawHeads e n) hr (e.glo 21) (e.keep 15 (d := d_lawHeads)) (b_lawHeads e) tk (sa_cons (se_slice rfl (se_var 0) (sp_some (se_op od_addA (se_var 3) se_int)) sp_none) (sa_cons (se_op od_subI (se_var 1) se_int) sa_nil)))) (blkOk_by (by kernel_rfl)) (.of fun s0 H0 C0 cl0 fp0 => ⟨by exact (sgc_name 5 sc_lawHeads.nd), by exact sts_nil, by exact (se_op od_addF (se_tupF (sa_cons (se_var 4) sa_nil)) (se_var 5))⟩))) sc_lawHeads.nd))))))) (sss_one (by exact (ss_ret (se_var 2)))))))
def N_law : List Str := ["script", "names", "dice", "rows", "here", "k", "sizes", "person", "other", "ranked", "roomy", "one", "two", "whole", "part", "due", "name", "exact_part", "people", "many", "ways", "heads", "groups", "total", "near", "less", "bad", "wrong", "table", "f", "head", "row"]
theorem sc_law : FnScope N_law ["script"] (defScope s_law) := ⟨rfl, rfl, rfl, by decide +kernel, rfl, by decide +kernel, by decide +kernel⟩
def lams_bad : List LamT := lamsOf ((defBody s_law).getD 5 (.Pass ⟨0, 0, 0, 0⟩))
def lams_bad_f0 : En → M D := (callE (consA (newDV false) nilA) (arg 1 D_checkMeasures))
def lams_bad_f1 : En → M D := (callE (consA (dispE (((cst (.str "chest")), (cst (.int 5))) :: [])) nilA) (arg 1 D_checkMeasures))
def lams_bad_f2 : En → M D := (callE (consA (getV 11) (consA (newDV false) nilA)) (arg 2 D_far))
def lams_bad_f3 : En → M D := (callE (consA (lstV nilA) nilA) (makeO 1 (arg 2 D_SizesInit)))
def lams_bad_f4 : En → M D := (callE (consA (lstV (consA (tupV (consA (cst (.str "s")) (consA (getV 11) nilA))) (consA (tupV (consA (cst (.str "s")) (consA (getV 11) nilA))) nilA))) nilA) (makeO 1 (arg 2 D_SizesInit)))
def lams_bad_f5 : En → M D := (callE (consA (lstV (consA (tupV (consA (cst (.str "s")) (consA (getV 11) nilA))) (consA (tupV (consA (cst (.str "t")) (consA (getV 25) nilA))) nilA))) nilA) (makeO 1 (arg 2 D_SizesInit)))
def lams_bad_f6 : En → M D := (callE (consA (lstV (consA (tupV (consA (cst (.str "s")) (consA (newDV false) nilA))) nilA)) nilA) (makeO 1 (arg 2 D_SizesInit)))
def lams_bad_f7 : En → M D := (methE 1 "size" (getV 6) (consA (cst (.str "t")) nilA) (arg 2 D_SizesSize))
def lams_bad_f8 : En → M D := (methE 1 "nearest" (getV 6) (consA (newDV false) nilA) (arg 2 D_SizesNearest))
def lams_bad_f9 : En → M D := (methE 1 "roomy" (getV 6) (consA (newDV false) nilA) (arg 2 D_SizesRoomy))
def lams_bad_f10 : En → M D := (methE 1 "between" (getV 6) (consA (cst (.str "s")) (consA (cst (.str "t")) (consA (cst (.int 0)) (consA (cst (.int 1)) nilA)))) (arg 5 D_SizesBetween))
def lams_bad_f11 : En → M D := (methE 1 "between" (getV 6) (consA (cst (.str "s")) (consA (cst (.str "s")) (consA (cst (.int 0)) (consA (cst (.int 0)) nilA)))) (arg 5 D_SizesBetween))
def lams_bad_f12 : En → M D := (methE 1 "between" (getV 6) (consA (cst (.str "s")) (consA (cst (.str "s")) (consA (cst (.int 2)) (consA (cst (.int 1)) nilA)))) (arg 5 D_SizesBetween))
def lams_bad_f13 : En → M D := (methE 1 "alterations" (getV 6) (consA (getV 11) (consA (cst (.str "t")) nilA)) (arg 3 D_SizesAlterations))
def lams_bad_f14 : En → M D := (methE 1 "alterations" (getV 6) (consA (newDV false) (consA (cst (.str "s")) nilA)) (arg 3 D_SizesAlterations))
def lams_bad_f15 : En → M D := (callE (consA (dispE (((cst (.str "a")), (getV 11)) :: [])) (consA (cst (.int 2)) nilA)) (arg 2 D_grouped))
def lams_bad_f16 : En → M D := (callE (consA (dispE (((cst (.str "a")), (getV 11)) :: [])) (consA (cst (.int 0)) nilA)) (arg 2 D_grouped))
def lams_bad_f17 : En → M D := (callE (consA (dictV (consA (genE (rng1 (cst (.int 9))) [5] (nameG 5) yesT (tupV (consA (callE (consA (getV 5) nilA) strC) (consA (getV 11) nilA))) chkAll finLst) nilA)) (consA (cst (.int 1)) nilA)) (arg 2 D_grouped))
def lams_bad_fbs : List (En → M D) := [lams_bad_f0, lams_bad_f1, lams_bad_f2, lams_bad_f3, lams_bad_f4, lams_bad_f5, lams_bad_f6, lams_bad_f7, lams_bad_f8, lams_bad_f9, lams_bad_f10, lams_bad_f11, lams_bad_f12, lams_bad_f13, lams_bad_f14, lams_bad_f15, lams_bad_f16, lams_bad_f17]
theorem lams_bad_mp {lp : Nat → Addr → Addr → HO → HO → Prop} (e : E w h K mg base) {A : Around} {outer : List Env} {s : Shared} {H : Hp} {E : XK} : MPcs (cxOf (L2.CX P w) P w K mg base N_law "law" (defScope s_law) (He.fAd K d_law.at_) (.ref (He.codeOf K d_law.at_)) A outer s H E) (GG K lp) 9 lams_bad lams_bad_fbs := mpcs_of (by unfold lams_bad_fbs; exact (.cons ⟨by unfold lams_bad_f0; exact ⟨fun A0 outer0 s0 H0 E0 f0 c0 hr1 tk1 => by exact (se_call (ok_checkMeasures e) (hr1.mono (by decide)) (e.glo 4) (e.keep 0 (d := d_checkMeasures)) (b_checkMeasures e) tk1 (sa_cons (se_dnewV false) sa_nil))⟩, lamS_by (by kernel_rfl), fun _ _ _ _ _ => rfl⟩ (.cons ⟨by unfold lams_bad_f1; exact ⟨fun A0 outer0 s0 H0 E0 f0 c0 hr1 tk1 => by exact (se_call (ok_checkMeasures e) (hr1.mono (by decide)) (e.glo 4) (e.keep 0 (d := d_checkMeasures)) (b_checkMeasures e) tk1 (sa_cons (se_disp (fps := (((cst (.str "chest")), (cst (.int 5))) :: [])) (pps_cons se_str se_int pps_nil)) sa_nil))⟩, lamS_by (by kernel_rfl), fun _ _ _ _ _ => rfl⟩ (.cons ⟨by unfold lams_bad_f2; exact ⟨fun A0 outer0 s0 H0 E0 f0 c0 hr1 tk1 => by exact (se_call (ok_far e) (hr1.mono (by decide)) (e.glo 13) (e.keep 1 (d := d_far)) (b_far e) tk1 (sa_cons (se_var 11) (sa_cons (se_dnewV false) sa_nil)))⟩, lamS_by (by kernel_rfl), fun _ _ _ _ _ => rfl⟩ (.cons ⟨by unfold lams_bad_f3; exact ⟨fun A0 outer0 s0 H0 E0 f0 c0 hr1 tk1 => by exact (se_make 1 (e.mkr 22) (ok_SizesInit e) (hr1.mono (by decide)) (e.glo 23) (b_SizesInit e) tk1 (sa_cons (se_lstV sa_nil) sa_nil))⟩, lamS_by (by kernel_rfl), fun _ _ _ _ _ => rfl⟩ (.cons ⟨by unfold lams_bad_f4; exact ⟨fun A0 outer0 s0 H0 E0 f0 c0 hr1 tk1 => by exact (se_make 1 (e.mkr 22) (ok_SizesInit e) (hr1.mono (by decide)) (e.glo 23) (b_SizesInit e) tk1 (sa_cons (se_lstV (sa_cons (se_tup (sa_cons se_str (sa_cons (se_var 11) sa_nil))) (sa_cons (se_tup (sa_cons se_str (sa_cons (se_var 11) sa_nil))) sa_nil))) sa_nil))⟩, lamS_by (by kernel_rfl), fun _ _ _ _ _ => rfl⟩ (.cons ⟨by unfold lams_bad_f5; exact ⟨fun A0 outer0 s0 H0 E0 f0 c0 hr1 tk1 => by exact (se_make 1 (e.mkr 22) (ok_SizesInit e) (hr1.mono (by decide)) (e.glo 23) (b_SizesInit e) tk1 (sa_cons (se_lstV (sa_cons (se_tup (sa_cons se_str (sa_cons (se_var 11) sa_nil))) (sa_cons (se_tup (sa_cons se_str (sa_cons (se_var 25) sa_nil))) sa_nil))) sa_nil))⟩, lamS_by (by kernel_rfl), fun _ _ _ _ _ => rfl⟩ (.cons ⟨by unfold lams_bad_f6; exact ⟨fun A0 outer0 s0 H0 E0 f0 c0 hr1 tk1 => by exact (se_make 1 (e.mkr 22) (ok_SizesInit e) (hr1.mono (by decide)) (e.glo 23) (b_SizesInit e) tk1 (sa_cons (se_lstV (sa_cons (se_tup (sa_cons se_str (sa_cons (se_dnewV false) sa_nil))) sa_nil)) sa_nil))⟩, lamS_by (by kernel_rfl), fun _ _ _ _ _ => rfl⟩ (.cons ⟨by unfold lams_bad_f7; exact ⟨fun A0 outer0 s0 H0 E0 f0 c0 hr1 tk1 => by exact (se_meth 1 (e.cls 8) (e.meth 15) (ok_SizesSize e) (hr1.mono (by decide)) (b_SizesSize e) tk1 (se_var 6) (sa_cons se_str sa_nil))⟩, lamS_by (by kernel_rfl), fun _ _ _ _ _ => rfl⟩ (.cons ⟨by unfold lams_bad_f8; exact ⟨fun A0 outer0 s0 H0 E0 f0 c0 hr1 tk1 => by exact (se_meth 1 (e.cls 8) (e.meth 24) (ok_SizesNearest e) (hr1.mono (by decide)) (b_SizesNearest e) tk1 (se_var 6) (sa_cons (se_dnewV false) sa_nil))⟩, lamS_by (by kernel_rfl), fun _ _ _ _ _ => rfl⟩ (.cons ⟨by unfold lams_bad_f9; exact ⟨fun A0 outer0 s0 H0 E0 f0 c0 hr1 tk1 => by exact (se_meth 1 (e.cls 8) (e.meth 25) (ok_SizesRoomy e) (hr1.mono (by decide)) (b_SizesRoomy e) tk1 (se_var 6) (sa_cons (se_dnewV false) sa_nil))⟩, lamS_by (by kernel_rfl), fun _ _ _ _ _ => rfl⟩ (.cons ⟨by unfold lams_bad_f10; exact ⟨fun A0 outer0 s0 H0 E0 f0 c0 hr1 tk1 => by exact (se_meth 1 (e.cls 8) (e.meth 26) (ok_SizesBetween e) (hr1.mono (by decide)) (b_SizesBetween e) tk1 (se_var 6) (sa_cons se_str (sa_cons se_str (sa_cons se_int (sa_cons se_int sa_nil)))))⟩, lamS_by (by kernel_rfl), fun _ _ _ _ _ => rfl⟩ (.cons ⟨by unfold lams_bad_f11; exact ⟨fun A0 outer0 s0 H0 E0 f0 c0 hr1 tk1 => by exact (se_meth 1 (e.cls 8) (e.meth 26) (ok_SizesBetween e) (hr1.mono (by decide)) (b_SizesBetween e) tk1 (se_var 6) (sa_cons se_str (sa_cons se_str (sa_cons se_int (sa_cons se_int sa_nil)))))⟩, lamS_by (by kernel_rfl), fun _ _ _ _ _ => rfl⟩ (.cons ⟨by unfold lams_bad_f12; exact ⟨fun A0 outer0 s0 H0 E0 f0 c0 hr1 tk1 => by exact (se_meth 1 (e.cls 8) (e.meth 26) (ok_SizesBetween e) (hr1.mono (by decide)) (b_SizesBetween e) tk1 (se_var 6) (sa_cons se_str (sa_cons se_str (sa_cons se_int (sa_cons se_int sa_nil)))))⟩, lamS_by (by kernel_rfl), fun _ _ _ _ _ => rfl⟩ (.cons ⟨by unfold lams_bad_f13; exact ⟨fun A0 outer0 s0 H0 E0 f0 c0 hr1 tk1 => by exact (se_meth 1 (e.cls 8) (e.meth 27) (ok_SizesAlterations e) (hr1.mono (by decide)) (b_SizesAlterations e) tk1 (se_var 6) (sa_cons (se_var 11) (sa_cons se_str sa_nil)))⟩, lamS_by (by kernel_rfl), fun _ _ _ _ _ => rfl⟩ (.cons ⟨by unfold lams_bad_f14; exact ⟨fun A0 outer0 s0 H0 E0 f0 c0 hr1 tk1 => by exact (se_meth 1 (e.cls 8) (e.meth 27) (ok_SizesAlterations e) (hr1.mono (by decide)) (b_SizesAlterations e) tk1 (se_var 6) (sa_cons (se_dnewV false) (sa_cons se_str sa_nil)))⟩, lamS_by (by kernel_rfl), fun _ _ _ _ _ => rfl⟩ (.cons ⟨by unfold lams_bad_f15; exact ⟨fun A0 outer0 s0 H0 E0 f0 c0 hr1 tk1 => by exact (se_call (ok_grouped e) (hr1.mono (by decide)) (e.glo 28) (e.keep 8 (d := d_grouped)) (b_grouped e) tk1 (sa_cons (se_disp (fps := (((cst (.str "a")), (getV 11)) :: [])) (pps_cons se_str (se_var 11) pps_nil)) (sa_cons se_int sa_nil)))⟩, lamS_by (by kernel_rfl), fun _ _ _ _ _ => rfl⟩ (.cons ⟨by unfold lams_bad_f16; exact ⟨fun A0 outer0 s0 H0 E0 f0 c0 hr1 tk1 => by exact (se_call (ok_grouped e) (hr1.mono (by decide)) (e.glo 28) (e.keep 8 (d := d_grouped)) (b_grouped e) tk1 (sa_cons (se_disp (fps := (((cst (.str "a")), (getV 11)) :: [])) (pps_cons se_str (se_var 11) pps_nil)) (sa_cons se_int sa_nil)))⟩, lamS_by (by kernel_rfl), fun _ _ _ _ _ => rfl⟩ (.cons ⟨by unfold lams_bad_f17; exact ⟨fun A0 outer0 s0 H0 E0 f0 c0 hr1 tk1 => by exact (se_call (ok_grouped e) (hr1.mono (by decide)) (e.glo 28) (e.keep 8 (d := d_grouped)) (b_grouped e) tk1 (sa_cons (se_dictV rfl rfl (e.free 6) (sa_cons (se_lc (own := [("k", 5)]) finLst rfl sc_law.nd finL_lst (si_range1 (e.free 16) se_int) (blkOk_by (by kernel_rfl)) (.of fun s1 H1 C1 cl1 fp1 => ⟨by exact (sgc_name 5 sc_law.nd), by exact sts_nil, by exact (se_tup (sa_cons (se_callTy cd_str (e.free 29) (sa_cons (se_var 5) sa_nil)) (sa_cons (se_var 11) sa_nil)))⟩)) sa_nil)) (sa_cons se_int sa_nil)))⟩, lamS_by (by kernel_rfl), fun _ _ _ _ _ => rfl⟩ .nil)))))))))))))))))))
def L_law_b0 : En → M Fl := (seqS (exprS (bmE "list" (getV 3) (consA (tupV (consA (bin2 addA (cst (.str "s")) (callE (consA (getV 5) nilA) strC)) (consA (dictV (consA (itemsE (getV 4)) nilA)) nilA))) nilA) appM)) (setS 4 (dictV (consA (lockQ (locV 1) (genE (itSeq (getV 1)) [16] (nameG 16) yesT (tupV (consA (getV 16) (consA (bin2 addA (bin2 itemO (getV 4) (getV 16)) (callE (consA (getV 2) (consA (cst (.int 80)) nilA)) (arg 2 D_lawRoll))) nilA))) chkAll finLst)) nilA))))
def L_law_b1 : En → M Fl := (seqS (setS 17 (bin2 addA (bin2 mulA (bin2 itemO (bin2 itemO (bin2 itemO (getV 3) (getV 11)) (cst (.int 1))) (getV 16)) (bin2 subI (getV 13) (getV 14))) (bin2 mulA (bin2 itemO (bin2 itemO (bin2 itemO (getV 3) (getV 12)) (cst (.int 1))) (getV 16)) (getV 14)))) (asgS (bin2 addA (bin2 fdvI (getV 17) (getV 13)) (callE (consA (bin2 geI (bin2 mulA (cst (.int 2)) (bin2 modI (getV 17) (getV 13))) (getV 13)) nilA) intC)) (subG (getV 15) (getV 16))))
def L_law_b2 : En → M Fl := (seqS (setS 24 (callE (consA (lockQ (locV 21) (genE (enumS (getV 21)) [5, 30] (tupG 2 (consG (nameG 5) (consG (nameG 30) nilG))) yesT (tupV (consA (callE (consA (bin2 itemO (getV 18) (getV 16)) (consA (bin2 itemO (getV 18) (getV 30)) nilA)) (arg 2 D_lawFar)) (consA (getV 5) nilA))) chkAll finLst)) nilA) (bestC PySem.W.dataLt))) (seqS (setS 24 (ifV (tst1 (bin2 inO (getV 16) (getV 21))) (tupV (consA (cst (.int 0)) (consA (tmE (getV 21) (consA (getV 16) nilA)) nilA))) (getV 24))) (asgS (tupV (consA (bin2 addA (bin2 itemO (getV 22) (bin2 itemO (getV 24) (cst (.int 1)))) (lstV (consA (getV 16) nilA))) (consA (bin2 addA (getV 23) (bin2 itemO (getV 24) (cst (.int 0)))) nilA))) (tupG 2 (consG (subG (getV 22) (bin2 itemO (getV 24) (cst (.int 1)))) (consG (nameG 23) nilG))))))
def L_law_b3 : En → M Fl := (seqS (parS 22 23 (consA (lockQ (locV 21) (genE (itSeq (getV 21)) [30] (nameG 30) yesT (lstV nilA) chkAll newL)) (consA (cst (.int 0)) nilA))) (seqS (forS (itSeq (callE (consA (getV 18) nilA) (sortedA false))) (nameG 16) L_law_b2) (exprS (bmE "list" (getV 20) (consA (tupV (consA (getV 23) (consA (getV 21) (consA (callE (consA (lockQ (locV 22) (genE (itSeq (getV 22)) [31] (nameG 31) yesT (callE (consA (getV 31) nilA) tupC) chkAll finLst)) nilA) tupC) nilA)))) nilA) appM))))
def L_law_b4 : En → M Fl := (seqS (asgS (tupV (consA (lstO nilA) (consA (callE (consA (getV 2) nilA) (arg 1 D_lawPerson)) nilA))) (tupG 2 (consG (nameG 3) (consG (nameG 4) nilG)))) (seqS (forS (rng1 (bin2 addA (cst (.int 1)) (callE (consA (getV 2) (consA (cst (.int 4)) nilA)) (arg 2 D_lawRoll)))) (nameG 5) L_law_b0) (seqS (asgS (tupV (consA (callE (consA (getV 3) nilA) (makeO 1 (arg 2 D_SizesInit))) (consA (callE (consA (getV 2) nilA) (arg 1 D_lawPerson)) (consA (callE (consA (getV 2) nilA) (arg 1 D_lawPerson)) nilA)))) (tupG 3 (consG (nameG 6) (consG (nameG 7) (consG (nameG 8) nilG))))) (seqS (ifS (orT (tst1 (bin2 neA (callE (consA (getV 7) (consA (getV 8) nilA)) (arg 2 D_far)) (callE (consA (getV 7) (consA (getV 8) nilA)) (arg 2 D_lawFar)))) (tst1 (bin2 isnotN (callE (consA (getV 7) nilA) (arg 1 D_checkMeasures)) (cst .non)))) (retS (cst (.bl false))) skip) (seqS (setS 9 (callE (consA (lockQ (locV 3) (genE (enumS (getV 3)) [5, 16, 28] (tupG 2 (consG (nameG 5) (consG (tupG 2 (consG (nameG 16) (consG (nameG 28) nilG))) nilG))) yesT (tupV (consA (callE (consA (getV 7) (consA (getV 28) nilA)) (arg 2 D_lawFar)) (consA (getV 5) nilA))) chkAll finLst)) nilA) (sortedA false))) (seqS (lockQ (locV 3) (setS 10 (genE (itSeq (getV 3)) [16, 28] (tupG 2 (consG (nameG 16) (consG (nameG 28) nilG))) (tst1 (bin2 eqA (lockQ (locV 1) (genE (itSeq (getV 1)) [11] (nameG 11) (tst1 (bin2 gtI (bin2 itemO (getV 7) (getV 11)) (bin2 itemO (getV 28) (getV 11)))) (cst (.int 1)) chkAll finLst)) (lstV nilA))) (getV 16) chkAll finLst))) (seqS (ifS (orT (tst1 (bin2 neA (methE 1 "nearest" (getV 6) (consA (getV 7) nilA) (arg 2 D_SizesNearest)) (bin2 addA (cst (.str "s")) (callE (consA (bin2 itemO (bin2 itemO (getV 9) (cst (.int 0))) (cst (.int 1))) nilA) strC)))) (tst1 (bin2 neA (methE 1 "roomy" (getV 6) (consA (getV 7) nilA) (arg 2 D_SizesRoomy)) (ifV (tst1 (bin2 neA (getV 10) (lstV nilA))) (bin2 itemO (getV 10) (cst (.int 0))) (cst .non))))) (retS (cst (.bl false))) skip) (seqS (asgS (tupV (consA (callE (consA (getV 2) (consA (callE (consA (getV 3) nilA) lenC) nilA)) (arg 2 D_lawRoll)) (consA (callE (consA (getV 2) (consA (callE (consA (getV 3) nilA) lenC) nilA)) (arg 2 D_lawRoll)) (consA (bin2 addA (cst (.int 1)) (callE (consA (getV 2) (consA (cst (.int 9)) nilA)) (arg 2 D_lawRoll))) nilA)))) (tupG 3 (consG (nameG 11) (consG (nameG 12) (consG (nameG 13) nilG))))) (seqS (parS 14 15 (consA (callE (consA (getV 2) (consA (bin2 addA (getV 13) (cst (.int 1))) nilA)) (arg 2 D_lawRoll)) (consA (newDE false) nilA))) (seqS (lockQ (locV 1) (forS (itSeq (getV 1)) (nameG 16) L_law_b1)) (seqS (ifS (orT (tst1 (bin2 neA (methE 1 "between" (getV 6) (consA (bin2 addA (cst (.str "s")) (callE (consA (getV 11) nilA) strC)) (consA (bin2 addA (cst (.str "s")) (callE (consA (getV 12) nilA) strC)) (consA (getV 14) (consA (getV 13) nilA)))) (arg 5 D_SizesBetween)) (getV 15))) (tst1 (bin2 neA (methE 1 "size" (getV 6) (consA (bin2 addA (cst (.str "s")) (callE (consA (getV 11) nilA) strC)) nilA) (arg 2 D_SizesSize)) (bin2 itemO (bin2 itemO (getV 3) (getV 11)) (cst (.int 1)))))) (retS (cst (.bl false))) skip) (seqS (ifS (tst1 (bin2 neA (callE (consA (methE 1 "alterations" (getV 6) (consA (getV 7) (consA (cst (.str "s0")) nilA)) (arg 3 D_SizesAlterations)) nilA) (listC false)) (lockQ (locV 1) (genE (itSeq (getV 1)) [16] (nameG 16) (tst1 (bin2 neA (bin2 itemO (getV 7) (getV 16)) (bin2 itemO (bin2 itemO (bin2 itemO (getV 3) (cst (.int 0))) (cst (.int 1))) (getV 16)))) (tupV (consA (getV 16) (consA (bin2 subI (bin2 itemO (getV 7) (getV 16)) (bin2 itemO (bin2 itemO (bin2 itemO (getV 3) (cst (.int 0))) (cst (.int 1))) (getV 16))) nilA))) chkAll finLst)))) (retS (cst (.bl false))) skip) (seqS (setS 18 (dictV (consA (genE (rng1 (bin2 addA (cst (.int 1)) (callE (consA (getV 2) (consA (cst (.int 6)) nilA)) (arg 2 D_lawRoll)))) [5] (nameG 5) yesT (tupV (consA (bin2 addA (cst (.str "p")) (callE (consA (getV 5) nilA) strC)) (consA (ifV (tst1 (bin2 gtI (callE (consA (getV 2) (consA (cst (.int 4)) nilA)) (arg 2 D_lawRoll)) (cst (.int 0)))) (callE (consA (getV 2) nilA) (arg 1 D_lawPerson)) (getV 7)) nilA))) chkAll finLst) nilA))) (seqS (parS 19 20 (consA (bin2 addA (cst (.int 1)) (callE (consA (getV 2) (consA (callE (consA (getV 18) nilA) lenC) nilA)) (arg 2 D_lawRoll))) (consA (lstO nilA) nilA))) (seqS (forS (itSeq (callE (consA (callE (consA (getV 18) nilA) (sortedA false)) (consA (getV 19) nilA)) (arg 2 (D_lawHeads 8)))) (nameG 21) L_law_b3) (ifS (tst1 (bin2 neA (callE (consA (getV 18) (consA (getV 19) nilA)) (arg 2 D_grouped)) (tupV (consA (bin2 itemO (callE (consA (getV 20) nilA) (bestC PySem.W.dataLt)) (cst (.int 0))) (consA (bin2 itemO (callE (consA (getV 20) nilA) (bestC PySem.W.dataLt)) (cst (.int 2))) nilA))))) (retS (cst (.bl false))) skip))))))))))))))))
def L_law_tail0 : En → M Fl := (seqS (setS 11 (dictV (consA (lockQ (locV 1) (genE (itSeq (getV 1)) [16] (nameG 16) yesT (tupV (consA (getV 16) (consA (cst (.int 500)) nilA))) chkAll finLst)) nilA))) (seqS (setS 25 (dictV (consA (lockQ (locV 1) (genE (itSeq (getV 1)) [16] (nameG 16) yesT (tupV (consA (getV 16) (consA (cst (.int 499)) nilA))) chkAll finLst)) nilA))) (seqS (setS 6 (callE (consA (lstV (consA (tupV (consA (cst (.str "s")) (consA (getV 11) nilA))) nilA)) nilA) (makeO 1 (arg 2 D_SizesInit)))) (seqS (setS 26 (lstV (consA (fun _ => M.pure (.lam 0)) (consA (fun _ => M.pure (.lam 1)) (consA (fun _ => M.pure (.lam 2)) (consA (fun _ => M.pure (.lam 3)) (consA (fun _ => M.pure (.lam 4)) (consA (fun _ => M.pure (.lam 5)) (consA (fun _ => M.pure (.lam 6)) (consA (fun _ => M.pure (.lam 7)) (consA (fun _ => M.pure (.lam 8)) (consA (fun _ => M.pure (.lam 9)) (consA (fun _ => M.pure (.lam 10)) (consA (fun _ => M.pure (.lam 11)) (consA (fun _ => M.pure (.lam 12)) (consA (fun _ => M.pure (.lam 13)) (consA (fun _ => M.pure (.lam 14)) (consA (fun _ => M.pure (.lam 15)) (consA (fun _ => M.pure (.lam 16)) (consA (fun _ => M.pure (.lam 17)) nilA)))))))))))))))))))) (seqS (ifS (orT (tst1 (bin2 neA (lockQ (locV 26) (genE (itSeq (getV 26)) [29] (nameG 29) (tst1 (bin2 neA (toldV okc "MeasureError" [29] 29 lams_bad_fbs) (cst (.str "MeasureError")))) (cst (.int 1)) chkAll finLst)) (lstV nilA))) (tst1 (bin2 neA (tupV (consA (callE (consA (cst (.kt [.str "chest", .str "waist", .str "hip", .str "back", .str "sleeve"])) nilA) (listC false)) (consA (kdE kd_WEIGHTS (cst (.str "chest"))) nilA))) (tupV (consA (getV 1) (consA (cst (.int 4)) nilA)))))) (retS (cst (.bl false))) skip) (seqS (setS 27 (dictV (consA (lockQ (locV 1) (genE (itSeq (getV 1)) [16] (nameG 16) yesT (tupV (consA (getV 16) (consA (ifV (tst1 (bin2 eqA (getV 16) (cst (.str "hip")))) (cst (.int 0)) (cst (.int 500))) nilA))) chkAll finLst)) nilA))) (retS (andV (bin2 eqA (toldE okc "MeasureError" (callE (consA (getV 27) nilA) (arg 1 D_checkMeasures))) (cst (.str "MeasureError"))) (andV (bin2 eqA (methE 1 "roomy" (getV 6) (consA (getV 25) nilA) (arg 2 D_SizesRoomy)) (cst (.str "s"))) (bin2 eqT0 (methE 1 "alterations" (getV 6) (consA (getV 11) (consA (cst (.str "s")) nilA)) (arg 3 D_SizesAlterations)) (tupV nilA)))))))))))
def dn_law : En → M Fl := (seqS (setS 1 (lstV (consA (cst (.str "chest")) (consA (cst (.str "waist")) (consA (cst (.str "hip")) (consA (cst (.str "back")) (consA (cst (.str "sleeve")) nilA))))))) (seqS (forS (itSeq (callE (consA (getV 0) (consA (cst (.int 1)) nilA)) (arg 2 D_lawRounds))) (nameG 2) L_law_b4) (freshT [1] L_law_tail0)))
def D_law : List D → M D := bodyD 32 dn_law
theorem b_law (e : E w h K mg base) : L2.Binds K (fdOf K d_law.at_) ["script"] [] := e.binds 16 (d := d_law) rfl (fun _ _ _ _ _ _ us hl => match us, hl with | [_], _ => rfl) rfl
theorem ok_law_body (e : E w h K mg base) (A : Around) (outer : List Env) (s : Shared) (H : Hp) (E : XK) (hr : Room 11 (A.deeper (envOfC "law" (defScope s_law) s.heap.objs.size (He.fAd K d_law.at_) (.ref (He.codeOf K d_law.at_))))) (tk : TakesD (cxOf (L2.CX P w) P w K mg base N_law "law" (defScope s_law) (He.fAd K d_law.at_) (.ref (He.codeOf K d_law.at_)) A outer s H E) E) : SSs (cxOf (L2.CX P w) P w K mg base N_law "law" (defScope s_law) (He.fAd K d_law.at_) (.ref (He.codeOf K d_law.at_)) A outer s H E) (GG K (lamPX (("law" : Str) ++ ".<locals>.") (cellsFrom (s.heap.objs.size + 1) (defScope s_law).names []) lams_bad)) E (defBody s_law) dn_law := by
  unfold dn_law
  exact (sss_cons (by exact (ss_set 1 (se_lstV (sa_cons se_str (sa_cons se_str (sa_cons se_str (sa_cons se_str (sa_cons se_str sa_nil)))))) sc_law.nd)) (sss_cons (by exact (ss_for (passes_of rfl) rfl (si_seq rfl (se_call (ok_lawRounds e) (hr.mono (by decide)) (e.glo 30) (e.keep 11 (d := d_lawRounds)) (b_lawRounds e) tk (sa_cons (se_var 0) (sa_cons se_int sa_nil)))) (sg_name 2 sc_law.nd) (b := L_law_b4) (by unfold L_law_b4; exact (sss_cons (by exact (ss_asg (se_tup (sa_cons (se_lstO sa_nil) (sa_cons (se_call (ok_lawPerson e) (hr.mono (by decide)) (e.glo 31) (e.keep 13 (d := d_lawPerson)) (b_lawPerson e) tk (sa_cons (se_var 2) sa_nil)) sa_nil))) (sg_tup 2 rfl rfl (sgs_cons (sg_name 3 sc_law.nd) (sgs_cons (sg_name 4 sc_law.nd) sgs_nil))))) (sss_cons (by exact (ss_for (passes_of rfl) rfl (si_range1 (e.free 16) (se_op od_addA se_int (se_call (ok_lawRoll e) (hr.mono (by decide)) (e.glo 19) (e.keep 10 (d := d_lawRoll)) (b_lawRoll e) tk (sa_cons (se_var 2) (sa_cons se_int sa_nil))))) (sg_name 5 sc_law.nd) (b := L_law_b0) (by unfold L_law_b0; exact (sss_cons (by exact (ss_expr (se_bm PySem.F.plainAttrs_list PySem.F.slot_list_append PySem.F.type_list_append mt_app (se_var 3) (sa_cons (se_tup (sa_cons (se_op od_addA se_str (se_callTy cd_str (e.free 29) (sa_cons (se_var 5) sa_nil))) (sa_cons (se_dictV rfl rfl (e.free 6) (sa_cons (se_items rfl (e.free 32) (se_var 4)) sa_nil)) sa_nil))) sa_nil)))) (sss_one (by exact (ss_set 4 (se_dictV rfl rfl (e.free 6) (sa_cons (se_lockQ (locV 1) (se_lc (own := [("name", 16)]) finLst rfl sc_law.nd finL_lst (si_seq rfl (se_var 1)) (blkOk_by (by kernel_rfl)) (.of fun s0 H0 C0 cl0 fp0 => ⟨by exact (sgc_name 16 sc_law.nd), by exact sts_nil, by exact (se_tup (sa_cons (se_var 16) (sa_cons (se_op od_addA (se_item rfl (hu_of hr) (se_var 4) (se_var 16)) (se_call (ok_lawRoll e) (hr.mono (by decide)) (e.glo 19) (e.keep 10 (d := d_lawRoll)) (b_lawRoll e) takesN (sa_cons (se_var 2) (sa_cons se_int sa_nil)))) sa_nil)))⟩))) sa_nil)) sc_law.nd))))))) (sss_cons (by exact (ss_asg (se_tup (sa_cons (se_make 1 (e.mkr 22) (ok_SizesInit e) (hr.mono (by decide)) (e.glo 23) (b_SizesInit e) tk (sa_cons (se_var 3) sa_nil)) (sa_cons (se_call (ok_lawPerson e) (hr.mono (by decide)) (e.glo 31) (e.keep 13 (d := d_lawPerson)) (b_lawPerson e) tk (sa_cons (se_var 2) sa_nil)) (sa_cons (se_call (ok_lawPerson e) (hr.mono (by decide)) (e.glo 31) (e.keep 13 (d := d_lawPerson)) (b_lawPerson e) tk (sa_cons (se_var 2) sa_nil)) sa_nil)))) (sg_tup 3 rfl rfl (sgs_cons (sg_name 6 sc_law.nd) (sgs_cons (sg_name 7 sc_law.nd) (sgs_cons (sg_name 8 sc_law.nd) sgs_nil)))))) (sss_cons (by exact (ss_if (sw_or (st_cmp (od_neA rfl hr.units) (se_call (ok_far e) (hr.mono (by decide)) (e.glo 13) (e.keep 1 (d := d_far)) (b_far e) tk (sa_cons (se_var 7) (sa_cons (se_var 8) sa_nil))) (se_call (ok_lawFar e) (hr.mono (by decide)) (e.glo 33) (e.keep 14 (d := d_lawFar)) (b_lawFar e) tk (sa_cons (se_var 7) (sa_cons (se_var 8) sa_nil)))) (sw_or1 (st_cmp od_isnotN (se_call (ok_checkMeasures e) (hr.mono (by decide)) (e.glo 4) (e.keep 0 (d := d_checkMeasures)) (b_checkMeasures e) tk (sa_cons (se_var 7) sa_nil)) se_non))).pt (sss_one (by exact (ss_ret se_bl))) sss_nil)) (sss_cons (by exact (ss_set 9 (se_callB (cd_sortedA false rfl rfl hr.units) (e.free 0) (sa_cons (se_lockQ (locV 3) (se_lc (own := [("k", 5), ("name", 16), ("table", 28)]) finLst rfl sc_law.nd finL_lst (si_enum rfl (e.free 12) (se_var 3)) (blkOk_by (by kernel_rfl)) (.of fun s0 H0 C0 cl0 fp0 => ⟨by exact (sgc_tup 2 rfl rfl (sgcs_cons (sgc_name 5 sc_law.nd) (sgcs_cons (sgc_tup 2 rfl rfl (sgcs_cons (sgc_name 16 sc_law.nd) (sgcs_cons (sgc_name 28 sc_law.nd) sgcs_nil))) sgcs_nil))), by exact sts_nil, by exact (se_tup (sa_cons (se_call (ok_lawFar e) (hr.mono (by decide)) (e.glo 33) (e.keep 14 (d := d_lawFar)) (b_lawFar e) takesN (sa_cons (se_var 7) (sa_cons (se_var 28) sa_nil))) (sa_cons (se_var 5) sa_nil)))⟩))) sa_nil)) sc_law.nd)) (sss_cons (by exact (ss_lockQ (locV 3) (ss_setLc (own := [("name", 16), ("table", 28)]) 10 finLst rfl sc_law.nd finL_lst (si_seq rfl (se_var 3)) (blkOk_by (by kernel_rfl)) (.of fun s0 H0 C0 cl0 fp0 => ⟨by exact (sgc_tup 2 rfl rfl (sgcs_cons (sgc_name 16 sc_law.nd) (sgcs_cons (sgc_name 28 sc_law.nd) sgcs_nil))), by exact (sts_one (st_cmp (od_eqA rfl hr.units) (se_lockQ (locV 1) (se_lc (own := [("one", 11)]) finLst rfl sc_law.nd finL_lst (si_seq rfl (se_var 1)) (blkOk_by (by kernel_rfl)) (.of fun s1 H1 C1 cl1 fp1 => ⟨by exact (sgc_name 11 sc_law.nd), by exact (sts_one (st_cmp od_gtI (se_item rfl (hu_of hr) (se_var 7) (se_var 11)) (se_item rfl (hu_of hr) (se_var 28) (se_var 11)))), by exact se_int⟩))) (se_lstV sa_nil))), by exact (se_var 16)⟩)))) (sss_cons (by exact (ss_if (sw_or (st_cmp (od_neA rfl hr.units) (se_meth 1 (e.cls 8) (e.meth 24) (ok_SizesNearest e) (hr.mono (by decide)) (b_SizesNearest e) tk (se_var 6) (sa_cons (se_var 7) sa_nil)) (se_op od_addA se_str (se_callTy cd_str (e.free 29) (sa_cons (se_item rfl (hu_of hr) (se_item rfl (hu_of hr) (se_var 9) se_int) se_int) sa_nil)))) (sw_or1 (st_cmp (od_neA rfl hr.units) (se_meth 1 (e.cls 8) (e.meth 25) (ok_SizesRoomy e) (hr.mono (by decide)) (b_SizesRoomy e) tk (se_var 6) (sa_cons (se_var 7) sa_nil)) (se_if (st_cmp (od_neA rfl hr.units) (se_var 10) (se_lstV sa_nil)) (se_item rfl (hu_of hr) (se_var 10) se_int) se_non)))).pt (sss_one (by exact (ss_ret se_bl))) sss_nil)) (sss_cons (by exact (ss_asg (se_tup (sa_cons (se_call (ok_lawRoll e) (hr.mono (by decide)) (e.glo 19) (e.keep 10 (d := d_lawRoll)) (b_lawRoll e) tk (sa_cons (se_var 2) (sa_cons (se_callB (cd_len rfl) (e.free 10) (sa_cons (se_var 3) sa_nil)) sa_nil))) (sa_cons (se_call (ok_lawRoll e) (hr.mono (by decide)) (e.glo 19) (e.keep 10 (d := d_lawRoll)) (b_lawRoll e) tk (sa_cons (se_var 2) (sa_cons (se_callB (cd_len rfl) (e.free 10) (sa_cons (se_var 3) sa_nil)) sa_nil))) (sa_cons (se_op od_addA se_int (se_call (ok_lawRoll e) (hr.mono (by decide)) (e.glo 19) (e.keep 10 (d := d_lawRoll)) (b_lawRoll e) tk (sa_cons (se_var 2) (sa_cons se_int sa_nil)))) sa_nil)))) (sg_tup 3 rfl rfl (sgs_cons (sg_name 11 sc_law.nd) (sgs_cons (sg_name 12 sc_law.nd) (sgs_cons (sg_name 13 sc_law.nd) sgs_nil)))))) (sss_cons (by exact (ss_par 14 15 rfl sc_law.nd (sa_cons (se_call (ok_lawRoll e) (hr.mono (by decide)) (e.glo 19) (e.keep 10 (d := d_lawRoll)) (b_lawRoll e) tk (sa_cons (se_var 2) (sa_cons (se_op od_addA (se_var 13) se_int) sa_nil))) (sa_cons (se_dnew false) sa_nil)))) (sss_cons (by exact (ss_lockQ (locV 1) (ss_for (passes_of rfl) rfl (si_seq rfl (se_var 1)) (sg_name 16 sc_law.nd) (b := L_law_b1) (by unfold L_law_b1; exact (sss_cons (by exact (ss_set 17 (se_op od_addA (se_op od_mulA (se_item rfl (hu_of hr) (se_item rfl (hu_of hr) (se_item rfl (hu_of hr) (se_var 3) (se_var 11)) se_int) (se_var 16)) (se_op od_subI (se_var 13) (se_var 14))) (se_op od_mulA (se_item rfl (hu_of hr) (se_item rfl (hu_of hr) (se_item rfl (hu_of hr) (se_var 3) (se_var 12)) se_int) (se_var 16)) (se_var 14))) sc_law.nd)) (sss_one (by exact (ss_asg (se_op od_addA (se_op od_fdvI (se_var 17) (se_var 13)) (se_callTy cd_int (e.free 18) (sa_cons (se_cmp od_geI (se_op od_mulA se_int (se_op od_modI (se_var 17) (se_var 13))) (se_var 13)) sa_nil))) (sg_sub (hu_of hr) (se_var 15) (se_var 16)))))))))) (sss_cons (by exact (ss_if (sw_or (st_cmp (od_neA rfl hr.units) (se_meth 1 (e.cls 8) (e.meth 26) (ok_SizesBetween e) (hr.mono (by decide)) (b_SizesBetween e) tk (se_var 6) (sa_cons (se_op od_addA se_str (se_callTy cd_str (e.free 29) (sa_cons (se_var 11) sa_nil))) (sa_cons (se_op od_addA se_str (se_callTy cd_str (e.free 29) (sa_cons (se_var 12) sa_nil))) (sa_cons (se_var 14) (sa_cons (se_var 13) sa_nil))))) (se_var 15)) (sw_or1 (st_cmp (od_neA rfl hr.units) (se_meth 1 (e.cls 8) (e.meth 15) (ok_SizesSize e) (hr.mono (by decide)) (b_SizesSize e) tk (se_var 6) (sa_cons (se_op od_addA se_str (se_callTy cd_str (e.free 29) (sa_cons (se_var 11) sa_nil))) sa_nil)) (se_item rfl (hu_of hr) (se_item rfl (hu_of hr) (se_var 3) (se_var 11)) se_int)))).pt (sss_one (by exact (ss_ret se_bl))) sss_nil)) (sss_cons (by exact (ss_if (st_cmp (od_neA rfl hr.units) (se_callTy (cd_list false rfl rfl) (e.free 32) (sa_cons (se_meth 1 (e.cls 8) (e.meth 27) (ok_SizesAlterations e) (hr.mono (by decide)) (b_SizesAlterations e) tk (se_var 6) (sa_cons (se_var 7) (sa_cons se_str sa_nil))) sa_nil)) (se_lockQ (locV 1) (se_lc (own := [("name", 16)]) finLst rfl sc_law.nd finL_lst (si_seq rfl (se_var 1)) (blkOk_by (by kernel_rfl)) (.of fun s0 H0 C0 cl0 fp0 => ⟨by exact (sgc_name 16 sc_law.nd), by exact (sts_one (st_cmp (od_neA rfl hr.units) (se_item rfl (hu_of hr) (se_var 7) (se_var 16)) (se_item rfl (hu_of hr) (se_item rfl (hu_of hr) (se_item rfl (hu_of hr) (se_var 3) se_int) se_int) (se_var 16)))), by exact (se_tup (sa_cons (se_var 16) (sa_cons (se_op od_subI (se_item rfl (hu_of hr) (se_var 7) (se_var 16)) (se_item rfl (hu_of hr) (se_item rfl (hu_of hr) (se_item rfl (hu_of hr) (se_var 3) se_int) se_int) (se_var 16))) sa_nil)))⟩)))) (sss_one (by exact (ss_ret se_bl))) sss_nil)) (sss_cons (by exact (ss_set 18 (se_dictV rfl rfl (e.free 6) (sa_cons (se_lc (own := [("k", 5)]) finLst rfl sc_law.nd finL_lst (si_range1 (e.free 16) (se_op od_addA se_int (se_call (ok_lawRoll e) (hr.mono (by decide)) (e.glo 19) (e.keep 10 (d := d_lawRoll)) (b_lawRoll e) tk (sa_cons (se_var 2) (sa_cons se_int sa_nil))))) (blkOk_by (by kernel_rfl)) (.of fun s0 H0 C0 cl0 fp0 => ⟨by exact (sgc_name 5 sc_law.nd), by exact sts_nil, by exact (se_tup (sa_cons (se_op od_addA se_str (se_callTy cd_str (e.free 29) (sa_cons (se_var 5) sa_nil))) (sa_cons (se_if (st_cmp od_gtI (se_call (ok_lawRoll e) (hr.mono (by decide)) (e.glo 19) (e.keep 10 (d := d_lawRoll)) (b_lawRoll e) takesN (sa_cons (se_var 2) (sa_cons se_int sa_nil))) se_int) (se_call (ok_lawPerson e) (hr.mono (by decide)) (e.glo 31) (e.keep 13 (d := d_lawPerson)) (b_lawPerson e) takesN (sa_cons (se_var 2) sa_nil)) (se_var 7)) sa_nil)))⟩)) sa_nil)) sc_law.nd)) (sss_cons (by exact (ss_par 19 20 rfl sc_law.nd (sa_cons (se_op od_addA se_int (se_call (ok_lawRoll e) (hr.mono (by decide)) (e.glo 19) (e.keep 10 (d := d_lawRoll)) (b_lawRoll e) tk (sa_cons (se_var 2) (sa_cons (se_callB (cd_len rfl) (e.free 10) (sa_cons (se_var 18) sa_nil)) sa_nil)))) (sa_cons (se_lstO sa_nil) sa_nil)))) (sss_cons (by exact (ss_for (passes_of rfl) rfl (si_seq rfl (se_call (ok_lawHeads e 8) (hr.mono (by decide)) (e.glo 21) (e.keep 15 (d := d_lawHeads)) (b_lawHeads e) tk (sa_cons (se_callB (cd_sortedA false rfl rfl hr.units) (e.free 0) (sa_cons (se_var 18) sa_nil)) (sa_cons (se_var 19) sa_nil)))) (sg_name 21 sc_law.nd) (b := L_law_b3) (by unfold L_law_b3; exact (sss_cons (by exact (ss_par 22 23 rfl sc_law.nd (sa_cons (se_lockQ (locV 21) (se_lc (own := [("head", 30)]) newL rfl sc_law.nd finL_own (si_seq rfl (se_var 21)) (blkOk_by (by kernel_rfl)) (.of fun s0 H0 C0 cl0 fp0 => ⟨by exact (sgc_name 30 sc_law.nd), by exact sts_nil, by exact (se_lstV sa_nil)⟩))) (sa_cons se_int sa_nil)))) (sss_cons (by exact (ss_for (passes_of rfl) rfl (si_seq rfl (se_callB (cd_sortedA false rfl rfl hr.units) (e.free 0) (sa_cons (se_var 18) sa_nil))) (sg_name 16 sc_law.nd) (b := L_law_b2) (by unfold L_law_b2; exact (sss_cons (by exact (ss_set 24 (se_callB (cd_minD rfl rfl hr.units) (e.free 34) (sa_cons (se_lockQ (locV 21) (se_lc (own := [("k", 5), ("head", 30)]) finLst rfl sc_law.nd finL_lst (si_enum rfl (e.free 12) (se_var 21)) (blkOk_by (by kernel_rfl)) (.of fun s0 H0 C0 cl0 fp0 => ⟨by exact (sgc_tup 2 rfl rfl (sgcs_cons (sgc_name 5 sc_law.nd) (sgcs_cons (sgc_name 30 sc_law.nd) sgcs_nil))), by exact sts_nil, by exact (se_tup (sa_cons (se_call (ok_lawFar e) (hr.mono (by decide)) (e.glo 33) (e.keep 14 (d := d_lawFar)) (b_lawFar e) takesN (sa_cons (se_item rfl (hu_of hr) (se_var 18) (se_var 16)) (sa_cons (se_item rfl (hu_of hr) (se_var 18) (se_var 30)) sa_nil))) (sa_cons (se_var 5) sa_nil)))⟩))) sa_nil)) sc_law.nd)) (sss_cons (by exact (ss_set 24 (se_if (st_in rfl hr.units (se_var 16) (se_var 21)) (se_tup (sa_cons se_int (sa_cons (se_tind (se_var 21) (sa_cons (se_var 16) sa_nil)) sa_nil))) (se_var 24)) sc_law.nd)) (sss_one (by exact (ss_asg (se_tup (sa_cons (se_op od_addA (se_item rfl (hu_of hr) (se_var 22) (se_item rfl (hu_of hr) (se_var 24) se_int)) (se_lstV (sa_cons (se_var 16) sa_nil))) (sa_cons (se_op od_addA (se_var 23) (se_item rfl (hu_of hr) (se_var 24) se_int)) sa_nil))) (sg_tup 2 rfl rfl (sgs_cons (sg_sub (hu_of hr) (se_var 22) (se_item rfl (hu_of hr) (se_var 24) se_int)) (sgs_cons (sg_name 23 sc_law.nd) sgs_nil))))))))))) (sss_one (by exact (ss_expr (se_bm PySem.F.plainAttrs_list PySem.F.slot_list_append PySem.F.type_list_append mt_app (se_var 20) (sa_cons (se_tup (sa_cons (se_var 23) (sa_cons (se_var 21) (sa_cons (se_callTy (cd_tup rfl) (e.free 7) (sa_cons (se_lockQ (locV 22) (se_lc (own := [("row", 31)]) finLst rfl sc_law.nd finL_lst (si_seq rfl (se_var 22)) (blkOk_by (by kernel_rfl)) (.of fun s0 H0 C0 cl0 fp0 => ⟨by exact (sgc_name 31 sc_law.nd), by exact sts_nil, by exact (se_callTy (cd_tup rfl) (e.free 7) (sa_cons (se_var 31) sa_nil))⟩))) sa_nil)) sa_nil)))) sa_nil)))))))))) (sss_one (by exact (ss_if (st_cmp (od_neA rfl hr.units) (se_call (ok_grouped e) (hr.mono (by decide)) (e.glo 28) (e.keep 8 (d := d_grouped)) (b_grouped e) tk (sa_cons (se_var 18) (sa_cons (se_var 19) sa_nil))) (se_tup (sa_cons (se_item rfl (hu_of hr) (se_callB (cd_minD rfl rfl hr.units) (e.free 34) (sa_cons (se_var 20) sa_nil)) se_int) (sa_cons (se_item rfl (hu_of hr) (se_callB (cd_minD rfl rfl hr.units) (e.free 34) (sa_cons (se_var 20) sa_nil)) se_int) sa_nil)))) (sss_one (by exact (ss_ret se_bl))) sss_nil))))))))))))))))))))) (sss_freshT [1] (g := L_law_tail0) (by unfold L_law_tail0; exact (sss_cons (by exact (ss_set 11 (se_dictV rfl rfl (e.free 6) (sa_cons (se_lockQ (locV 1) (se_lc (own := [("name", 16)]) finLst rfl sc_law.nd finL_lst (si_seq rfl (se_var 1)) (blkOk_by (by kernel_rfl)) (.of fun s0 H0 C0 cl0 fp0 => ⟨by exact (sgc_name 16 sc_law.nd), by exact sts_nil, by exact (se_tup (sa_cons (se_var 16) (sa_cons se_int sa_nil)))⟩))) sa_nil)) sc_law.nd)) (sss_cons (by exact (ss_set 25 (se_dictV rfl rfl (e.free 6) (sa_cons (se_lockQ (locV 1) (se_lc (own := [("name", 16)]) finLst rfl sc_law.nd finL_lst (si_seq rfl (se_var 1)) (blkOk_by (by kernel_rfl)) (.of fun s0 H0 C0 cl0 fp0 => ⟨by exact (sgc_name 16 sc_law.nd), by exact sts_nil, by exact (se_tup (sa_cons (se_var 16) (sa_cons se_int sa_nil)))⟩))) sa_nil)) sc_law.nd)) (sss_cons (by exact (ss_set 6 (se_make 1 (e.mkr 22) (ok_SizesInit e) (hr.mono (by decide)) (e.glo 23) (b_SizesInit e) tk (sa_cons (se_lstV (sa_cons (se_tup (sa_cons se_str (sa_cons (se_var 11) sa_nil))) sa_nil)) sa_nil)) sc_law.nd)) (sss_cons (by exact (ss_set 26 (se_lstV (sa_cons (se_lam 0 rfl rfl (e.tab 6).1 rfl (e.tab 6).2.1 (e.tab 6).2.2 (lamS_by (by kernel_rfl)) rfl) (sa_cons (se_lam 1 rfl rfl (e.tab 6).1 rfl (e.tab 6).2.1 (e.tab 6).2.2 (lamS_by (by kernel_rfl)) rfl) (sa_cons (se_lam 2 rfl rfl (e.tab 6).1 rfl (e.tab 6).2.1 (e.tab 6).2.2 (lamS_by (by kernel_rfl)) rfl) (sa_cons (se_lam 3 rfl rfl (e.tab 6).1 rfl (e.tab 6).2.1 (e.tab 6).2.2 (lamS_by (by kernel_rfl)) rfl) (sa_cons (se_lam 4 rfl rfl (e.tab 6).1 rfl (e.tab 6).2.1 (e.tab 6).2.2 (lamS_by (by kernel_rfl)) rfl) (sa_cons (se_lam 5 rfl rfl (e.tab 6).1 rfl (e.tab 6).2.1 (e.tab 6).2.2 (lamS_by (by kernel_rfl)) rfl) (sa_cons (se_lam 6 rfl rfl (e.tab 6).1 rfl (e.tab 6).2.1 (e.tab 6).2.2 (lamS_by (by kernel_rfl)) rfl) (sa_cons (se_lam 7 rfl rfl (e.tab 6).1 rfl (e.tab 6).2.1 (e.tab 6).2.2 (lamS_by (by kernel_rfl)) rfl) (sa_cons (se_lam 8 rfl rfl (e.tab 6).1 rfl (e.tab 6).2.1 (e.tab 6).2.2 (lamS_by (by kernel_rfl)) rfl) (sa_cons (se_lam 9 rfl rfl (e.tab 6).1 rfl (e.tab 6).2.1 (e.tab 6).2.2 (lamS_by (by kernel_rfl)) rfl) (sa_cons (se_lam 10 rfl rfl (e.tab 6).1 rfl (e.tab 6).2.1 (e.tab 6).2.2 (lamS_by (by kernel_rfl)) rfl) (sa_cons (se_lam 11 rfl rfl (e.tab 6).1 rfl (e.tab 6).2.1 (e.tab 6).2.2 (lamS_by (by kernel_rfl)) rfl) (sa_cons (se_lam 12 rfl rfl (e.tab 6).1 rfl (e.tab 6).2.1 (e.tab 6).2.2 (lamS_by (by kernel_rfl)) rfl) (sa_cons (se_lam 13 rfl rfl (e.tab 6).1 rfl (e.tab 6).2.1 (e.tab 6).2.2 (lamS_by (by kernel_rfl)) rfl) (sa_cons (se_lam 14 rfl rfl (e.tab 6).1 rfl (e.tab 6).2.1 (e.tab 6).2.2 (lamS_by (by kernel_rfl)) rfl) (sa_cons (se_lam 15 rfl rfl (e.tab 6).1 rfl (e.tab 6).2.1 (e.tab 6).2.2 (lamS_by (by kernel_rfl)) rfl) (sa_cons (se_lam 16 rfl rfl (e.tab 6).1 rfl (e.tab 6).2.1 (e.tab 6).2.2 (lamS_by (by kernel_rfl)) rfl) (sa_cons (se_lam 17 rfl rfl (e.tab 6).1 rfl (e.tab 6).2.1 (e.tab 6).2.2 (lamS_by (by kernel_rfl)) rfl) sa_nil))))))))))))))))))) sc_law.nd)) (sss_cons (by exact (ss_if (sw_or (st_cmp (od_neA rfl hr.units) (se_lockQ (locV 26) (se_lc (own := [("f", 29)]) finLst rfl sc_law.nd finL_lst (si_seq rfl (se_var 26)) (blkOk_by (by kernel_rfl)) ⟨fun pins0 sz0 s0 H0 C0 cl0 fp0 I0 hfp0 => ⟨by exact (sgc_name 29 sc_law.nd), by exact (pts_one (st_toldf 9 (told e) (od_neA rfl hr.units) I0 hfp0 rfl hr (hexc e) (lams_bad_mp e))), by exact (pe_imp se_int fun _ _ _ z => z.2)⟩⟩)) (se_lstV sa_nil)) (sw_or1 (st_cmp (od_neA rfl hr.units) (se_tup (sa_cons (se_callTy (cd_list false rfl rfl) (e.free 32) (sa_cons (se_con e.con e.X e.N rfl (List.mem_of_getElem? (l := cs) (i := 0) rfl)) sa_nil)) (sa_cons (se_kd (ks := kds) e.con e.X e.N rfl rfl (e.kd 0 (t := kt_WEIGHTS) rfl).choose_spec.choose_spec (List.mem_of_getElem? (l := kds) (i := 0) rfl) se_str) sa_nil))) (se_tup (sa_cons (se_var 1) (sa_cons se_int sa_nil)))))).pt (sss_one (by exact (ss_ret se_bl))) sss_nil)) (sss_cons (by exact (ss_set 27 (se_dictV rfl rfl (e.free 6) (sa_cons (se_lockQ (locV 1) (se_lc (own := [("name", 16)]) finLst rfl sc_law.nd finL_lst (si_seq rfl (se_var 1)) (blkOk_by (by kernel_rfl)) (.of fun s0 H0 C0 cl0 fp0 => ⟨by exact (sgc_name 16 sc_law.nd), by exact sts_nil, by exact (se_tup (sa_cons (se_var 16) (sa_cons (se_if (st_cmp (od_eqA rfl hr.units) (se_var 16) se_str) se_int se_int) sa_nil)))⟩))) sa_nil)) sc_law.nd)) (sss_one (by exact (ss_ret (se_and (se_cmp (od_eqA rfl hr.units) (se_toldE 9 (told e) rfl (e.tab 6).1 rfl (e.tab 6).2.1 (e.tab 6).2.2 hr (lamS_by (by kernel_rfl)) (hexc e) ⟨fun A0 outer0 s0 H0 E0 f0 c0 hr1 tk1 => by exact (se_call (ok_checkMeasures e) (hr1.mono (by decide)) (e.glo 4) (e.keep 0 (d := d_checkMeasures)) (b_checkMeasures e) tk1 (sa_cons (se_var 27) sa_nil))⟩) se_str) (se_and (se_cmp (od_eqA rfl hr.units) (se_meth 1 (e.cls 8) (e.meth 25) (ok_SizesRoomy e) (hr.mono (by decide)) (b_SizesRoomy e) tk (se_var 6) (sa_cons (se_var 25) sa_nil)) se_str) (se_one (se_cmp (od_eqT0 rfl hr.units) (se_meth 1 (e.cls 8) (e.meth 27) (ok_SizesAlterations e) (hr.mono (by decide)) (b_SizesAlterations e) tk (se_var 6) (sa_cons (se_var 11) (sa_cons se_str sa_nil))) (se_tup sa_nil))))))))))))))))))
end
abbrev R : PySem.W.OpenRow := PySem.W.OpenLaw.row PySem.Challenge.rw_tailorstack_k01_measures_and_sizes
abbrev hk : PySem.W.Hook := He.hookX 5 fa fn tsT (tq.map (·.1)) ex
def ob (s : PySem.W.SharedT) : He.AlX := He.obsX 5 fa fn tsT (tq.map (·.1)) ex (HandSHeadRun.getT s)
theorem ob_eq (s : PySem.W.SharedT) : ob s = hk.obs s.abs := He.obsX_eq (HandSHeadRun.getT_eq s)
def loose : List Str := ["TailorError", "MeasureError", "NAMES", "WEIGHTS", "check_measures", "far", "Sizes", "grouped", "_law_dice", "_law_roll", "_law_rounds", "_law_told", "_law_person", "_law_far", "_law_heads"]
def wf (w : World) (b : Bool) : World := { w with params := { w.params with followText := fun s => if s = "special-get-raises" then b else w.params.followText s } }
theorem wf_eq (w : World) : wf w (w.params.followText "special-get-raises") = w := by
  have e : (fun s => if s = "special-get-raises" then w.params.followText "special-get-raises" else w.params.followText s) = w.params.followText := by
    funext s
    by_cases h : s = "special-get-raises"
    · rw [if_pos h, h]
    · rw [if_neg h]
  unfold wf
  rw [e]
set_option maxHeartbeats 0 in
theorem runT (w : World) : HandSHeadRun.RunEq R (PySem.W.view R.prog [18]) hk ob 8000 loose (wf w true) := by
  intro os
  kernel_rfl
set_option maxHeartbeats 0 in
theorem runF (w : World) : HandSHeadRun.RunEq R (PySem.W.view R.prog [18]) hk ob 8000 loose (wf w false) := by
  intro os
  kernel_rfl
theorem run (w : World) : HandSHeadRun.RunEq R (PySem.W.view R.prog [18]) hk ob 8000 loose w := by
  have h : ∀ b, HandSHeadRun.RunEq R (PySem.W.view R.prog [18]) hk ob 8000 loose (wf w b) := fun b => by
    cases b
    · exact runF w
    · exact runT w
  have h2 := h (w.params.followText "special-get-raises")
  rw [wf_eq] at h2
  exact h2

/-- what the mathematics has to say -/
def LawMath : Prop := ∀ (ns : List Int) (d : D) (S : Sto), ns.length ≤ 63 → (∀ z ∈ ns, Builtin.Int.intBits z ≤ 1048576) → (d = .kl (ns.map .int) ∧ S = ⟨[], []⟩) ∨ (d = .ref 0 ∧ ∃ lk : List Nat, (∀ l ∈ lk, l = 0) ∧ S = ⟨[.lst (ns.map .int)], lk⟩) → ∃ S', D_law [d] S = .ok (.bl true) S'
open PySem PySem.W PySem.Calls PyProof.Rows in
set_option maxHeartbeats 0 in
theorem holds_of (hm : LawMath) : PySem.Challenge.rw_tailorstack_k01_measures_and_sizes.Holds := by
  w_on; o_law
  refine HandSHeadRun.head_any (r := OpenLaw.row PySem.Challenge.rw_tailorstack_k01_measures_and_sizes) (q := view (OpenLaw.row PySem.Challenge.rw_tailorstack_k01_measures_and_sizes).prog [18]) (H := hk) (ob := ob) (M := 8000) (loose := loose) (d := HandSHeadRun.topDef (OpenLaw.row PySem.Challenge.rw_tailorstack_k01_measures_and_sizes).prog 18) (kwd := []) ob_eq
    (by kernel_rfl) (fun s => by kernel_rfl) run (by kernel_rfl) (by kernel_rfl) (by kernel_rfl) (by rfl) (by first | assumption | decide +kernel) (by decide +kernel) ⟨rfl, rfl, rfl, rfl, rfl, by decide +kernel⟩ ?hw ?hc
  case hw => w_witness2
  case hc =>
    refine LamX.walk_ofTsE (l := PySem.Challenge.rw_tailorstack_k01_measures_and_sizes) (n := 63) (k := 12) (x := "script") (CX := fun w => L2.CX (PySem.Challenge.rw_tailorstack_k01_measures_and_sizes).prog w) rfl (by decide) (by kernel_rfl) ⟨rfl, by decide, by decide⟩ ?F fun w H s e s' z => cx_none w H s e s' z
    intro w mg f h Y Gh hmg0
    obtain ⟨K, KX, c⟩ := Y
    have hmg : mg ("law" : PySem.Str) = some (.ref f) := by
      have e : (HandSHeadRun.topDef (OpenLaw.row PySem.Challenge.rw_tailorstack_k01_measures_and_sizes).prog 18).name = ("law" : PySem.Str) := by kernel_rfl
      rw [← e]
      exact hmg0
    refine ⟨K, KX, lawAtC_of (d := d_law) (i := 37) (j := 16) KX Gh c hmg rfl rfl rfl rfl (fun _ _ _ _ _ _ us hl => match us, hl with | [_], _ => rfl) fun base e => ?_⟩
    exact lawC_ok (G := fun cl => GG K (lamPX (("law" : Str) ++ ".<locals>.") cl lams_bad)) (N := N_law) (fb := dn_law) (p := d_law.at_) (fun _ => rfl) (fun _ => rfl) (e.def_ 16 (d := d_law)) sc_law (fun A outer s H E hr tk => ok_law_body e A outer s H E hr tk) hm
end K01

set_option Elab.async false
set_option linter.all false
set_option maxRecDepth 100000
set_option maxHeartbeats 1000000
namespace K01
open PySem PySem.Spec PyProof.Rows L2 LamX Fd
/-! ### tables -/
def nm5 : List Str := ["chest", "waist", "hip", "back", "sleeve"]
abbrev Tb := Str → Int
def rw5 (t : Tb) : List (Str × Int) := nm5.map fun n => (n, t n)
def kv5 (t : Tb) : List (DK × D) := (rw5 t).map kvOf
def tb (t : Tb) : D := .dct false (kv5 t)
def Ok (t : Tb) : Prop := ∀ n ∈ nm5, 1 ≤ t n ∧ t n ≤ 3000
theorem nm5_nodup : nm5.Nodup := by decide +kernel
theorem rw5_names (t : Tb) : (rw5 t).map (·.1) = nm5 := by
  unfold rw5
  rw [List.map_map]
  exact List.map_id _
theorem rw5_nod (t : Tb) : ((rw5 t).map (·.1)).Nodup := by rw [rw5_names]; exact nm5_nodup
theorem val5 {t : Tb} {n : Str} (h : n ∈ nm5) : val (kv5 t) (.k (.inr n)) = some (.int (t n)) :=
  val_bs (p := (n, t n)) (rw5_nod t) (List.mem_map.mpr ⟨n, h, rfl⟩)
theorem kv5_congr {t u : Tb} (h : ∀ n ∈ nm5, t n = u n) : kv5 t = kv5 u := by
  have e : rw5 t = rw5 u := List.map_congr_left fun n hn => by rw [h n hn]
  unfold kv5
  rw [e]
theorem tb_congr {t u : Tb} (h : ∀ n ∈ nm5, t n = u n) : tb t = tb u := by unfold tb; rw [kv5_congr h]
section
variable {S : Sto} {E : Nat → Sto → Prop} {Q : D → Sto → Prop} {σ : En}
theorem it5_wp {t : Tb} {n : Str} (h : n ∈ nm5) : wp (itemO (tb t) (.str n)) S Q E = Q (.int (t n)) S := itemV_wp (val5 h)
def ns5 : D := .kt [.str "chest", .str "waist", .str "hip", .str "back", .str "sleeve"]
theorem itNs_ok : itSeq (cst (.kt [.str "chest", .str "waist", .str "hip", .str "back", .str "sleeve"])) σ S = .ok (nm5.map D.str) S := rfl
def srt5 : List D := [.str "back", .str "chest", .str "hip", .str "sleeve", .str "waist"]
theorem sortTab (t : Tb) : sortedA false [tb t] S = .ok (.lst srt5) S := by kernel_rfl
theorem sortNs : sortTC false [.kt [.str "chest", .str "waist", .str "hip", .str "back", .str "sleeve"]] S = .ok (.lst srt5) S := by kernel_rfl
theorem neSrt : neA (.lst srt5) (.lst srt5) S = .ok (.bl false) S := neSame_ok (p := .list [.str "back", .str "chest", .str "hip", .str "sleeve", .str "waist"]) rfl rfl (PySem.SeqAt.eqv_refl_plain _ rfl)
theorem itTab_ok {t : Tb} {i : Nat} (h : σ[i]? = some (some (tb t))) : itSeq (getV i) σ S = .ok (nm5.map D.str) S := run_of fun Q E hq => by
  simp only [itSeq, getV, wp_bind, wp_pure, h]
  exact hq
theorem check_ok {t : Tb} (h : Ok t) : D_checkMeasures [tb t] S = .ok .non S := run_of fun Q E hq => by
  have g : genE (itSeq (getV 0)) [1] (nameG 1) yesT (notV (chainV leI leI (cst (.int 1)) (bin2 itemO (getV 0) (getV 1)) (cst (.int 3000)))) (chkB true) (finB false) [some (tb t), none] S = .ok (.bl false) S := by
    rw [genA_ok D.str nm5 (fun n => !(decide (1 ≤ t n) && decide (t n ≤ 3000))) (itTab_ok rfl) (fun n hn => run_of fun Q E hq => ?_)]
    · rw [show nm5.any (fun n => !(decide (1 ≤ t n) && decide (t n ≤ 3000))) = false from ?_]
      rw [List.any_eq_false]
      intro n hn
      rw [decide_eq_true (h n hn).1, decide_eq_true (h n hn).2]
      decide
    · simp only [bodG, nameG, yesT, wipeE, notV, chainV, bin2, getV, cst, wp_bind, wp_pure, wp_ite, if_true, List.set_cons_zero, List.set_cons_succ, List.getElem?_cons_zero, List.getElem?_cons_succ, it5_wp hn, wp_leI, wp_asB]
      by_cases z : decide (1 ≤ t n) = true
      · rw [z] at hq ⊢
        simpa using hq
      · rw [Bool.not_eq_true] at z
        rw [z] at hq ⊢
        simpa using hq
  unfold D_checkMeasures bodyD dn_checkMeasures
  rw [show startD 2 [tb t] = [some (tb t), none] from rfl]
  have l0 : ∀ {α : Type} {f : En → M α} {Q : α → Sto → Prop} {E : Nat → Sto → Prop}, wp (lockQ (locV 0) f [some (tb t), none]) S Q E = wp (f [some (tb t), none]) S Q E := fun {α f Q E} => lockD_wp (kvs := kv5 t) rfl
  simp only [ifS, orT, tst1, bin2, callE, consA, nilA, getV, cst, skip, wp_bind, wp_pure, wp_ite, List.getElem?_cons_zero, List.getElem?_cons_succ, wp_eq (sortTab t), wp_eq sortNs, wp_eq neSrt, wp_asB, Bool.false_eq_true, if_false, l0, wp_eq g]
  exact hq
def wt5 (n : Str) : Int := if n = "chest" then 4 else if n = "waist" then 3 else if n = "hip" then 3 else 1
def far5 (t u : Tb) : Int := (nm5.map fun n => wt5 n * (t n - u n) * (t n - u n)).sum
theorem wt5_ok {n : Str} (h : n ∈ nm5) : kd_WEIGHTS.lookup n = some (.int (wt5 n)) := by
  unfold nm5 at h
  simp only [List.mem_cons, List.not_mem_nil, or_false] at h
  rcases h with rfl | rfl | rfl | rfl | rfl <;> kernel_rfl
theorem wt5_bd {n : Str} (h : n ∈ nm5) : 0 ≤ wt5 n ∧ wt5 n ≤ 4 := by
  unfold nm5 at h
  simp only [List.mem_cons, List.not_mem_nil, or_false] at h
  rcases h with rfl | rfl | rfl | rfl | rfl <;> decide +kernel
theorem sq_bd {w d : Int} (h0 : 0 ≤ w) (h1 : w ≤ 4) (d0 : -3000 ≤ d) (d1 : d ≤ 3000) : (0 ≤ w * d * d ∧ w * d * d ≤ 36000000) ∧ -12000 ≤ w * d ∧ w * d ≤ 12000 := by
  have hd : 0 ≤ d * d ∧ d * d ≤ 9000000 := by
    by_cases h : 0 ≤ d
    · exact ⟨Int.mul_nonneg h h, Int.le_trans (Int.mul_le_mul d1 d1 h (by decide)) (by decide)⟩
    · have : d * d = (-d) * (-d) := by rw [Int.neg_mul_neg]
      rw [this]
      exact ⟨Int.mul_nonneg (by omega) (by omega), Int.le_trans (Int.mul_le_mul (show -d ≤ 3000 by omega) (show -d ≤ 3000 by omega) (by omega) (by decide)) (by decide)⟩
  have hw : w = 0 ∨ w = 1 ∨ w = 2 ∨ w = 3 ∨ w = 4 := by omega
  rcases hw with rfl | rfl | rfl | rfl | rfl
  · simp
  · rw [Int.one_mul]; omega
  · rw [Int.mul_assoc]; omega
  · rw [Int.mul_assoc]; omega
  · rw [Int.mul_assoc]; omega
theorem far5_nonneg {t u : Tb} (ht : Ok t) (hu : Ok u) : 0 ≤ far5 t u ∧ far5 t u < 1000000000 := by
  have key : ∀ l : List Str, (∀ n ∈ l, n ∈ nm5) → 0 ≤ (l.map fun n => wt5 n * (t n - u n) * (t n - u n)).sum ∧ (l.map fun n => wt5 n * (t n - u n) * (t n - u n)).sum ≤ 36000000 * l.length := by
    intro l
    induction l with
    | nil => intro _; exact ⟨Int.le_refl _, Int.le_refl _⟩
    | cons a l ih =>
      intro h
      have i := ih fun n hn => h n (List.mem_cons_of_mem _ hn)
      have ha := h a List.mem_cons_self
      have w := wt5_bd ha
      have t1 := ht a ha
      have u1 := hu a ha
      have b := (sq_bd w.1 w.2 (d := t a - u a) (by omega) (by omega)).1
      rw [List.map_cons, List.sum_cons, List.length_cons]
      omega
  have k := key nm5 fun n h => h
  have : (nm5.length : Int) = 5 := rfl
  unfold far5
  omega
theorem term_wp {t u : Tb} {n : Str} (ht : Ok t) (hu : Ok u) (hn : n ∈ nm5) : wp (mulA (.int (wt5 n)) (.int (t n - u n))) S Q E = Q (.int (wt5 n * (t n - u n))) S ∧ wp (mulA (.int (wt5 n * (t n - u n))) (.int (t n - u n))) S Q E = Q (.int (wt5 n * (t n - u n) * (t n - u n))) S := by
  have t1 := ht n hn
  have u1 := hu n hn
  exact ⟨wp_mulI (.inr (by omega)), wp_mulI (.inr (by omega))⟩
theorem far_ok {t u : Tb} (ht : Ok t) (hu : Ok u) : D_far [tb t, tb u] S = .ok (.int (far5 t u)) S := run_of fun Q E hq => by
  have g : genE (itSeq (cst (.kt [.str "chest", .str "waist", .str "hip", .str "back", .str "sleeve"]))) [2] (nameG 2) yesT (bin2 mulA (bin2 mulA (kdE kd_WEIGHTS (getV 2)) (bin2 subI (bin2 itemO (getV 0) (getV 2)) (bin2 itemO (getV 1) (getV 2)))) (bin2 subI (bin2 itemO (getV 0) (getV 2)) (bin2 itemO (getV 1) (getV 2)))) chkSum finSum [some (tb t), some (tb u), none] S = .ok (.int (far5 t u)) S := by
    have hs : (nm5.filterMap fun n => some (wt5 n * (t n - u n) * (t n - u n))).sum < 2 ^ 63 := by
      rw [filterMap_some]
      exact Int.lt_trans (far5_nonneg ht hu).2 (by decide)
    have hp : ∀ n ∈ nm5, ∀ i, some (wt5 n * (t n - u n) * (t n - u n)) = some i → 0 ≤ i := fun n hn i e => by
      cases e
      have w := wt5_bd hn
      have t1 := ht n hn
      have u1 := hu n hn
      exact (sq_bd w.1 w.2 (d := t n - u n) (by omega) (by omega)).1.1
    rw [genS_ok D.str nm5 (fun n => some (wt5 n * (t n - u n) * (t n - u n))) itNs_ok (fun n hn => run_of fun Q E hq => ?_) hp hs, filterMap_some]
    · rfl
    · simp only [bodG, nameG, yesT, wipeE, kdE, bin2, getV, cst, wp_bind, wp_pure, wp_ite, if_true, List.set_cons_zero, List.set_cons_succ, List.getElem?_cons_zero, List.getElem?_cons_succ, it5_wp hn, wt5_ok hn, wp_subI, (term_wp ht hu hn).1, (term_wp ht hu hn).2]
      exact hq
  unfold D_far bodyD dn_far
  rw [show startD 3 [tb t, tb u] = [some (tb t), some (tb u), none] from rfl]
  simp only [seqS, exprS, retS, callE, consA, nilA, arg, getV, wp_bind, wp_pure, wp_ite, List.getElem?_cons_zero, List.getElem?_cons_succ, List.length_cons, List.length_nil, show ((0 : Nat) + 1 = 1) = True from eq_true rfl, if_true, wp_eq (check_ok ht), wp_eq (check_ok hu), wp_eq g]
  exact hq
end
end K01

set_option Elab.async false
set_option linter.all false
set_option maxRecDepth 100000
set_option maxHeartbeats 1000000
namespace K01
open PySem PySem.Spec PyProof.Rows L2 LamX Fd
/-! ### a store that grows -/
structure Gr (S S' : Sto) : Prop where
  lk : S'.lck = S.lck
  ob : ∃ r, S'.objs = S.objs ++ r
def Fre (S : Sto) : Prop := ∀ k ∈ S.lck, k < S.n
theorem Gr.refl (S : Sto) : Gr S S := ⟨rfl, [], (List.append_nil _).symm⟩
theorem Gr.trans {S S' S'' : Sto} (a : Gr S S') (b : Gr S' S'') : Gr S S'' := by
  obtain ⟨r, hr⟩ := a.ob
  obtain ⟨q, hq⟩ := b.ob
  exact ⟨b.lk.trans a.lk, r ++ q, by rw [hq, hr, List.append_assoc]⟩
theorem Gr.push (S : Sto) (o : SO) : Gr S (S.push o) := ⟨rfl, [o], rfl⟩
theorem Gr.n {S S' : Sto} (h : Gr S S') : S.n ≤ S'.n := by
  obtain ⟨r, hr⟩ := h.ob
  show S.objs.length ≤ S'.objs.length
  rw [hr, List.length_append]
  omega
theorem Gr.at_ {S S' : Sto} (h : Gr S S') {l : Nat} {o : SO} (e : S.objs[l]? = some o) : S'.objs[l]? = some o := by
  obtain ⟨r, hr⟩ := h.ob
  rw [hr, List.getElem?_append_left (List.getElem?_eq_some_iff.mp e).1]
  exact e
theorem Gr.locked {S S' : Sto} (h : Gr S S') (l : Nat) : S'.locked l = S.locked l := by unfold Sto.locked; rw [h.lk]
theorem Fre.gr {S S' : Sto} (f : Fre S) (h : Gr S S') : Fre S' := fun k hk => by
  rw [h.lk] at hk
  exact Nat.lt_of_lt_of_le (f k hk) h.n
theorem Fre.no {S : Sto} (f : Fre S) {k : Nat} (h : S.n ≤ k) : S.locked k = false := by
  unfold Sto.locked
  rw [List.contains_eq_mem]
  exact decide_eq_false fun hm => absurd (f k hm) (by omega)
theorem push_at (S : Sto) (o : SO) : (S.push o).objs[S.n]? = some o := by
  show (S.objs ++ [o])[S.objs.length]? = _
  rw [List.getElem?_append_right (Nat.le_refl _), Nat.sub_self]
  rfl
section
variable {S : Sto} {E : Nat → Sto → Prop} {Q : D → Sto → Prop} {σ : En}
theorem push_put (S : Sto) (o o' : SO) : (S.push o).put S.n o' = S.push o' := by
  show (⟨(S.objs ++ [o]).set S.objs.length o', S.lck⟩ : Sto) = ⟨S.objs ++ [o'], S.lck⟩
  rw [List.set_append_right _ _ (Nat.le_refl _), Nat.sub_self]
  rfl
def dspW : En → M D := dispE (((cst (.str "chest")), (cst (.int 4))) :: (((cst (.str "waist")), (cst (.int 3))) :: (((cst (.str "hip")), (cst (.int 3))) :: (((cst (.str "back")), (cst (.int 1))) :: (((cst (.str "sleeve")), (cst (.int 1))) :: [])))))
theorem merge_w : mergeD [] [((.k (.inr "chest") : DK), D.int 4), (.k (.inr "waist"), .int 3), (.k (.inr "hip"), .int 3), (.k (.inr "back"), .int 1), (.k (.inr "sleeve"), .int 1)] = kv5 wt5 := by kernel_rfl
theorem disp_ok (f : Fre S) : dspW σ S = .ok (.ref S.n) (S.push (.dct false (kv5 wt5))) := by
  have hl : (S.push (.dct false [])).locked S.n = false := f.no (Nat.le_refl _)
  have ho := push_at S (.dct false [])
  unfold dspW dispE
  show dispFin S.n [(.str "chest", .int 4), (.str "waist", .int 3), (.str "hip", .int 3), (.str "back", .int 1), (.str "sleeve", .int 1)] (S.push (.dct false [])) = _
  unfold dispFin
  show (if _ then _ else _ : Fd.R D) = _
  rw [if_pos ⟨by decide, hl⟩, ho]
  show Fd.R.ok (D.ref S.n) ((S.push (.dct false [])).put S.n (.dct false (mergeD [] [((.k (.inr "chest") : DK), D.int 4), (.k (.inr "waist"), .int 3), (.k (.inr "hip"), .int 3), (.k (.inr "back"), .int 1), (.k (.inr "sleeve"), .int 1)]))) = _
  rw [merge_w, push_put]
theorem lawFar_ok {t u : Tb} (ht : Ok t) (hu : Ok u) (f : Fre S) : D_lawFar [tb t, tb u] S = .ok (.int (far5 t u)) (S.push (.dct false (kv5 wt5))) := run_of fun Q E hq => by
  have f1 := f.gr (Gr.push S (.dct false (kv5 wt5)))
  have ho := push_at S (.dct false (kv5 wt5))
  have hlk : (S.push (.dct false (kv5 wt5))).locked S.n = false := f.no (Nat.le_refl _)
  have hw : ∀ {n : Str}, n ∈ nm5 → val (kv5 wt5) (.k (.inr n)) = some (.int (wt5 n)) := fun h => val5 h
  unfold D_lawFar bodyD dn_lawFar
  rw [show startD 4 [tb t, tb u] = [some (tb t), some (tb u), none, none] from rfl]
  have e1 := disp_ok (σ := [some (tb t), some (tb u), none, none]) f
  unfold dspW at e1
  generalize S.push (.dct false (kv5 wt5)) = S1 at *
  generalize S.n = l at *
  simp only [seqS, setS, wp_bind, wp_eq e1, wp_pure, retS, call1_wp, List.set_cons_succ, List.set_cons_zero]
  refine lockQ_wp (l := l) (o := .dct false (kv5 wt5)) (by show locD S1 (.ref l) = _; unfold locD; simp only [ho]) hlk ho rfl ?_
  have ho' : ({ S1 with lck := l :: S1.lck } : Sto).objs[l]? = some (.dct false (kv5 wt5)) := ho
  have hl' : ({ S1 with lck := l :: S1.lck } : Sto).locked l = true := by
    show (l :: S1.lck).contains l = true
    rw [List.contains_eq_mem]
    exact decide_eq_true List.mem_cons_self
  generalize hS2 : ({ S1 with lck := l :: S1.lck } : Sto) = S2 at ho' hl' ⊢
  have g : genE (itSeq (getV 2)) [3] (nameG 3) yesT (bin2 mulA (bin2 mulA (bin2 itemO (getV 2) (getV 3)) (bin2 subI (bin2 itemO (getV 0) (getV 3)) (bin2 itemO (getV 1) (getV 3)))) (bin2 subI (bin2 itemO (getV 0) (getV 3)) (bin2 itemO (getV 1) (getV 3)))) chkAll finLst [some (tb t), some (tb u), some (.ref l), none] S2 = .ok (.lst ((nm5.map fun n => wt5 n * (t n - u n) * (t n - u n)).map D.int)) S2 := by
    rw [genE_ok D.str nm5 (fun n => some (D.int (wt5 n * (t n - u n) * (t n - u n)))) (run_of fun Q E hq => ?_) (fun n hn => run_of fun Q E hq => ?_) (by decide), filterMap_some, List.map_map]
    · rfl
    · simp only [itSeq, getV, wp_bind, wp_pure, List.getElem?_cons_zero, List.getElem?_cons_succ, itDct_wp ho' hl']
      exact hq
    · simp only [bodG, nameG, yesT, wipeE, bin2, getV, cst, wp_bind, wp_pure, wp_ite, if_true, List.set_cons_zero, List.set_cons_succ, List.getElem?_cons_zero, List.getElem?_cons_succ, it5_wp hn, item_wp ho' (hw hn), wp_subI, (term_wp ht hu hn).1, (term_wp ht hu hn).2]
      exact hq
  rw [wp_eq g]
  subst hS2
  refine ⟨rfl, ?_⟩
  rw [sumL_wp]
  exact hq
end
end K01

set_option Elab.async false
set_option linter.all false
set_option maxRecDepth 100000
set_option maxHeartbeats 1000000
namespace K01
open PySem PySem.Spec PyProof.Rows L2 LamX Fd
/-! ### the dice -/
theorem roll_wp {S : Sto} {l : Nat} {m : Int} {Q : D → Sto → Prop} {E : Nat → Sto → Prop} (hd : diceAt S l) (hm : 0 < m) (hm2 : m ≤ 100000000) (k : ∀ r a b c : Int, 0 ≤ r → r < m → Q (.int r) (S.put l (.lst [.int a, .int b, .int c]))) : wp (D_lawRoll [.ref l, .int m]) S Q E := by
  obtain ⟨hl, a, b, c, ho⟩ := hd
  have hlt : l < S.objs.length := (List.getElem?_eq_some_iff.mp ho).1
  have at_ : ∀ o, (S.put l o).objs[l]? = some o := fun o => put_at hlt
  have w0 : ∀ {x y z : D} {Q : D → Sto → Prop} {E : Nat → Sto → Prop}, wp (itemO (.ref l) (.int 0)) (S.put l (.lst [x, y, z])) Q E = Q x (S.put l (.lst [x, y, z])) := wp_eq (item3 (at_ _)).1
  have w1 : ∀ {x y z : D} {Q : D → Sto → Prop} {E : Nat → Sto → Prop}, wp (itemO (.ref l) (.int 1)) (S.put l (.lst [x, y, z])) Q E = Q y (S.put l (.lst [x, y, z])) := wp_eq (item3 (at_ _)).2.1
  have w2 : ∀ {x y z : D} {Q : D → Sto → Prop} {E : Nat → Sto → Prop}, wp (itemO (.ref l) (.int 2)) (S.put l (.lst [x, y, z])) Q E = Q z (S.put l (.lst [x, y, z])) := wp_eq (item3 (at_ _)).2.2
  have v0 : ∀ {x y z v : D} {Q : Unit → Sto → Prop} {E : Nat → Sto → Prop}, wp (setO (.ref l) (.int 0) v) (S.put l (.lst [x, y, z])) Q E = Q () (S.put l (.lst [v, y, z])) := fun {x y z v Q E} => by rw [wp_eq (set_lst (j := 0) (at_ _) hl rfl), put_put]; rfl
  have v1 : ∀ {x y z v : D} {Q : Unit → Sto → Prop} {E : Nat → Sto → Prop}, wp (setO (.ref l) (.int 1) v) (S.put l (.lst [x, y, z])) Q E = Q () (S.put l (.lst [x, v, z])) := fun {x y z v Q E} => by rw [wp_eq (set_lst (j := 1) (at_ _) hl rfl), put_put]; rfl
  have v2 : ∀ {x y z v : D} {Q : Unit → Sto → Prop} {E : Nat → Sto → Prop}, wp (setO (.ref l) (.int 2) v) (S.put l (.lst [x, y, z])) Q E = Q () (S.put l (.lst [x, y, v])) := fun {x y z v Q E} => by rw [wp_eq (set_lst (j := 2) (at_ _) hl rfl), put_put]; rfl
  have nh : ¬ (100000000 < m) := by omega
  have m1 : ∀ (i : Int) {S : Sto} {Q : D → Sto → Prop} {E : Nat → Sto → Prop}, wp (mulA (.int i) (.int 48271)) S Q E = Q (.int (i * 48271)) S := fun i => wp_mulI (.inr ⟨by decide, by decide⟩)
  have m2 : ∀ (i : Int) {S : Sto} {Q : D → Sto → Prop} {E : Nat → Sto → Prop}, wp (mulA (.int i) (.int 69621)) S Q E = Q (.int (i * 69621)) S := fun i => wp_mulI (.inr ⟨by decide, by decide⟩)
  have m3 : ∀ (i : Int) {S : Sto} {Q : D → Sto → Prop} {E : Nat → Sto → Prop}, wp (modI (.int i) (.int 2147483647)) S Q E = Q (.int (i % 2147483647)) S := fun i => wp_modI (by decide)
  have m4 : ∀ (i : Int) {S : Sto} {Q : D → Sto → Prop} {E : Nat → Sto → Prop}, wp (fdvI (.int i) (.int 7)) S Q E = Q (.int (i / 7)) S := fun i => wp_fdvI (by decide) (by decide)
  have fin : ∀ (z : Int) (a b c : Int), Q (.int (z % m)) (S.put l (.lst [.int a, .int b, .int c])) := fun z a b c => k _ _ _ _ (Int.emod_nonneg _ (by omega)) (Int.emod_lt_of_pos _ hm)
  rw [← put_self ho]
  unfold D_lawRoll bodyD dn_lawRoll
  simp only [seqS, ifS, orT, andT, tst1, bin2, getV, cst, callE, consA, nilA, setS, asgS, subG, retS, skip, wp_bind, wp_pure, wp_ite, startD, List.map, List.length, List.replicate, List.append, List.cons_append, List.nil_append, List.getElem?_cons_zero, List.getElem?_cons_succ, List.set_cons_zero, List.set_cons_succ, w0, w1, w2, v0, v1, v2, m1, m2, m3, m4, wp_eqI, wp_asB, wp_gtI, wp_intI, wp_addI, wp_modI hm, wp_fdvI hm (show m < 1073741824 by omega), decide_eq_true_eq, nh, if_false, if_true, fin, ite_self]
theorem dice_wp {S : Sto} {z : Int} {Q : D → Sto → Prop} {E : Nat → Sto → Prop} (k : ∀ a b c : Int, Q (.ref S.n) (S.push (.lst [.int a, .int b, .int c]))) : wp (D_lawDice [.int z]) S Q E := by
  have ab : ∀ {i : Int} {S : Sto} {Q : D → Sto → Prop} {E : Nat → Sto → Prop}, wp (absC [.int i]) S Q E = Q (.int (if i < 0 then -i else i)) S := rfl
  have m1 : ∀ (i : Int) {S : Sto} {Q : D → Sto → Prop} {E : Nat → Sto → Prop}, wp (modI (.int i) (.int 1009)) S Q E = Q (.int (i % 1009)) S := fun i => wp_modI (by decide)
  have h3 : (0 + 1 + 1 + 1 ≤ sizeLine) = True := eq_true (by decide)
  unfold D_lawDice bodyD dn_lawDice
  simp only [seqS, ifS, tst1, chainV, bin2, getV, cst, callE, consA, nilA, lstO, retS, skip, wp_bind, wp_pure, wp_ite, startD, List.map, List.length_cons, List.length_nil, List.length, List.replicate, List.append, List.cons_append, List.nil_append, List.getElem?_cons_zero, List.getElem?_cons_succ, wp_asB, wp_ltI, wp_geI, wp_intI, wp_intB, wp_addI, wp_subI, powI_18, m1, ab, h3, newL_wp, if_true, k, ite_self]
theorem rounds_wp {S : Sto} {Q : D → Sto → Prop} {E : Nat → Sto → Prop} {d : D} {ns : List Int} (ht : tupD d = none) (hk : seqK S d = some (ns.map .int)) (k : ∀ a b c : Int, Q (.lst [.ref S.n]) (S.push (.lst [.int a, .int b, .int c]))) : wp (D_lawRounds [d, .int 1]) S Q E := by
  have h1 : (0 + 1 ≤ sizeLine) = True := eq_true (by decide)
  have h0 : (0 ≤ sizeLine) = True := eq_true (Nat.zero_le _)
  have gen : ∀ (z : Int) {Q : D → Sto → Prop} {E : Nat → Sto → Prop}, (∀ a b c : Int, Q (.lst [.ref S.n]) (S.push (.lst [.int a, .int b, .int c]))) → wp (lockQ (locV 2) (genE (itSeq (getV 2)) [3] (nameG 3) yesT (callE (consA (getV 3) nilA) (arg 1 D_lawDice)) chkAll finLst) [some d, some (.int 1), some (.lst [.int z]), none]) S Q E := fun z Q E hq => by
    unfold wp
    rw [lockQ_lst rfl]
    show wp _ S Q E
    simp only [genE, itSeq, getV, wp_bind, wp_pure, List.getElem?_cons_zero, List.getElem?_cons_succ, items_lst]
    refine wp_genL (fun ys ds S' => (ys = [] ∧ ds = [.int z] ∧ S' = S) ∨ (ds = [] ∧ ∃ a b c : Int, ys = [.ref S.n] ∧ S' = S.push (.lst [.int a, .int b, .int c]))) (fun ys x ds S' h => ?_) (fun ys S' h => ?_) _ _ _ (.inl ⟨rfl, rfl, rfl⟩)
    · rcases h with ⟨rfl, h2, rfl⟩ | ⟨h2, _⟩
      · cases h2
        have h1' : ((0 : Nat) + 1 = 1) = True := eq_true rfl
        simp only [bodG, nameG, yesT, wipeE, callE, consA, nilA, arg, getV, wp_bind, wp_pure, wp_ite, if_true, List.set_cons_zero, List.set_cons_succ, List.getElem?_cons_zero, List.getElem?_cons_succ, List.length_cons, List.length_nil, h1']
        refine dice_wp fun a b c => ?_
        have hc : chkAll [] (D.ref S'.n) = some none := if_pos (by decide)
        simp only [hc]
        exact .inr ⟨trivial, a, b, c, rfl, rfl⟩
      · cases h2
    · rcases h with ⟨_, h2, _⟩ | ⟨_, a, b, c, rfl, rfl⟩
      · cases h2
      · exact hq a b c
  unfold D_lawRounds bodyD dn_lawRounds
  simp only [seqS, ifS, tst1, bin2, sliceE, partD, getV, cst, setS, retS, skip, lstV, consA, nilA, wp_bind, wp_pure, wp_ite, startD, List.map_cons, List.map_nil, List.length_cons, List.length_nil, List.replicate, List.append, List.cons_append, List.nil_append, List.getElem?_cons_zero, List.getElem?_cons_succ, List.set_cons_zero, List.set_cons_succ, slice1_wp ht hk, h0, h1, if_true]
  cases ns with
  | nil =>
    simp only [List.map_nil, List.take_nil]
    rw [eqNil_wp (ps := []) rfl]
    simp only [wp_asB, List.isEmpty_nil, if_true, List.getElem?_cons_zero, List.getElem?_cons_succ, List.set_cons_zero, List.set_cons_succ]
    exact gen 0 k
  | cons a r =>
    simp only [List.map_cons, List.take_succ_cons, List.take_zero]
    rw [eqNil_wp (ps := [.int a]) rfl]
    simp only [wp_asB, List.isEmpty_cons, Bool.false_eq_true, if_false, List.getElem?_cons_zero, List.getElem?_cons_succ, List.set_cons_zero, List.set_cons_succ]
    exact gen a k
/-! ### what stays -/
structure Ev (ls : List Nat) (S S' : Sto) : Prop where
  lk : S'.lck = S.lck
  n : S.n ≤ S'.n
  ob : ∀ k o, k ∉ ls → S.objs[k]? = some o → S'.objs[k]? = some o
theorem Ev.refl (ls : List Nat) (S : Sto) : Ev ls S S := ⟨rfl, Nat.le_refl _, fun _ _ _ h => h⟩
theorem Ev.trans {ls : List Nat} {S S' S'' : Sto} (a : Ev ls S S') (b : Ev ls S' S'') : Ev ls S S'' := ⟨b.lk.trans a.lk, Nat.le_trans a.n b.n, fun k o hk h => b.ob k o hk (a.ob k o hk h)⟩
theorem Ev.mono {ls ms : List Nat} {S S' : Sto} (a : Ev ls S S') (h : ∀ k ∈ ls, k ∈ ms) : Ev ms S S' := ⟨a.lk, a.n, fun k o hk => a.ob k o fun z => hk (h k z)⟩
theorem Gr.ev {ls : List Nat} {S S' : Sto} (h : Gr S S') : Ev ls S S' := ⟨h.lk, h.n, fun _ _ _ e => h.at_ e⟩
theorem Ev.put (S : Sto) (l : Nat) (o : SO) : Ev [l] S (S.put l o) := ⟨rfl, by show S.objs.length ≤ (S.objs.set l o).length; rw [List.length_set]; exact Nat.le_refl _, fun k o' hk h => by
  rw [put_ne fun e => hk (List.mem_singleton.mpr e.symm)]
  exact h⟩
theorem Ev.locked {ls : List Nat} {S S' : Sto} (h : Ev ls S S') (l : Nat) : S'.locked l = S.locked l := by unfold Sto.locked; rw [h.lk]
theorem Ev.fre {ls : List Nat} {S S' : Sto} (h : Ev ls S S') (f : Fre S) : Fre S' := fun k hk => by
  rw [h.lk] at hk
  exact Nat.lt_of_lt_of_le (f k hk) h.n
theorem Gr.dice {S S' : Sto} {l : Nat} (h : Gr S S') (d : diceAt S l) : diceAt S' l := by
  obtain ⟨h1, a, b, c, h2⟩ := d
  exact ⟨by rw [h.locked]; exact h1, a, b, c, h.at_ h2⟩
theorem Ev.dice {ls : List Nat} {S S' : Sto} {l : Nat} (h : Ev ls S S') (hl : l ∉ ls) (d : diceAt S l) : diceAt S' l := by
  obtain ⟨h1, a, b, c, h2⟩ := d
  exact ⟨by rw [h.locked]; exact h1, a, b, c, h.ob l _ hl h2⟩
section
variable {S : Sto} {E : Nat → Sto → Prop} {Q : D → Sto → Prop} {σ : En} {ld : Nat}
/-! ### a person -/
theorem tb_of {p : List (Str × Int)} (h : p.map (·.1) = nm5) : ∃ t : Tb, p = rw5 t := by
  refine ⟨fun n => (p.lookup n).getD 0, ?_⟩
  unfold nm5 at h
  match p, h with
  | [(a, x1), (b, x2), (c, x3), (d, x4), (e, x5)], h =>
    simp only [List.map_cons, List.map_nil, List.cons.injEq, and_true] at h
    obtain ⟨rfl, rfl, rfl, rfl, rfl⟩ := h
    kernel_rfl
/-- a table by rolls -/
theorem rollTab {fit : En → M (List D)} {fe : En → M D} {P : Str → Int → Prop} {σ1 : En} {j : Nat} (hit : fit σ1 S = .ok (nm5.map D.str) S) (hd : diceAt S ld)
    (hf : ∀ S' n, n ∈ nm5 → diceAt S' ld → Ev [ld] S S' → wp (fe ((wipeE σ1 [j]).set j (some (.str n)))) S' (fun d S2 => diceAt S2 ld ∧ Ev [ld] S' S2 ∧ ∃ i : Int, d = .tup [.str n, .int i] ∧ P n i) fun _ _ => False)
    (k : ∀ (t : Tb) S', diceAt S' ld → Ev [ld] S S' → (∀ n ∈ nm5, P n (t n)) → Q (.lst ((rw5 t).map pairR)) S') : wp (genE fit [j] (nameG j) yesT fe chkAll finLst σ1) S Q E := by
  unfold genE
  rw [wp_bind, wp_eq hit]
  refine wp_genL (fun ys ds S' => diceAt S' ld ∧ Ev [ld] S S' ∧ ∃ (p : List (Str × Int)) (r : List Str), ys = p.map pairR ∧ ds = r.map D.str ∧ p.map (·.1) ++ r = nm5 ∧ ∀ q ∈ p, P q.1 q.2) (fun ys d ds S' h' => ?_) (fun ys S' h' => ?_) _ _ _ ⟨hd, .refl _ _, [], nm5, rfl, rfl, rfl, fun q hq => (by cases hq)⟩
  · obtain ⟨d', ev, p, r, rfl, h2, h3, h4⟩ := h'
    match r, h2, h3 with
    | n :: r, h2, h3 =>
      rw [List.map_cons] at h2
      injection h2 with h5 h6
      subst h5 h6
      have hn : n ∈ nm5 := by rw [← h3]; exact List.mem_append_right _ List.mem_cons_self
      simp only [bodG, nameG, yesT, wp_bind, wp_pure, wp_ite, if_true]
      refine wp_mono (hf S' n hn d' ev) (fun x S2 h2 => ?_) fun _ _ z => z
      obtain ⟨d2, ev2, i, rfl, hi⟩ := h2
      have hc : chkAll (p.map pairR) (.tup [.str n, .int i]) = some none := if_pos (by
        rw [List.length_map]
        have h7 := congrArg List.length h3
        rw [List.length_append, List.length_map, List.length_cons] at h7
        have h8 : nm5.length = 5 := rfl
        have : 5 < sizeLine := by decide
        omega)
      simp only [hc]
      refine ⟨d2, ev.trans ev2, p ++ [(n, i)], r, by rw [List.map_append]; rfl, rfl, by rw [List.map_append, List.append_assoc]; exact h3, fun q hq => ?_⟩
      rcases List.mem_append.mp hq with hq | hq
      · exact h4 q hq
      · rw [List.mem_singleton] at hq
        subst hq
        exact hi
  · obtain ⟨d', ev, p, r, rfl, h2, h3, h4⟩ := h'
    have hr : r = [] := by cases r with
      | nil => rfl
      | cons _ _ => cases h2
    subst hr
    rw [List.append_nil] at h3
    obtain ⟨t, rfl⟩ := tb_of h3
    exact k t S' d' ev fun n hn => h4 (n, t n) (List.mem_map.mpr ⟨n, hn, rfl⟩)
theorem dictL5 (t : Tb) : dictL S (.lst ((rw5 t).map pairR)) = some (kv5 t) := dct_made (rw5_nod t)
def Pers (t : Tb) : Prop := ∀ n ∈ nm5, 400 ≤ t n ∧ t n < 1100
theorem Pers.ok {t : Tb} (h : Pers t) : Ok t := fun n hn => by have := h n hn; omega
theorem person_wp (hd : diceAt S ld) (k : ∀ t S', Pers t → diceAt S' ld → Ev [ld] S S' → Q (tb t) S') : wp (D_lawPerson [.ref ld]) S Q E := by
  unfold D_lawPerson bodyD dn_lawPerson
  rw [show startD 2 [.ref ld] = [some (.ref ld), none] from rfl]
  simp only [retS, wp_bind, wp_pure]
  refine dictV1_wp ?_
  refine rollTab (ld := ld) (P := fun _ i => 400 ≤ i ∧ i < 1100) ?_ hd (fun S' n hn d' ev => ?_) fun t S' d' ev hp => ?_
  · exact run_of fun Q E hq => by
      simp only [itSeq, lstV, consA, nilA, cst, wp_bind, wp_pure, wp_ite, List.length_cons, List.length_nil, show ((0 : Nat) + 1 + 1 + 1 + 1 + 1 ≤ sizeLine) = True from eq_true (by decide), if_true, itemsL_wp]
      exact hq
  · simp only [wipeE, tup2_wp, bin2, callE, consA, nilA, arg, getV, cst, wp_bind, wp_pure, wp_ite, List.set_cons_zero, List.set_cons_succ, List.getElem?_cons_zero, List.getElem?_cons_succ, List.length_cons, List.length_nil, show ((0 : Nat) + 1 + 1 = 2) = True from eq_true rfl, if_true]
    refine roll_wp d' (by decide) (by decide) fun r a b c r0 r1 => ?_
    rw [wp_addI]
    exact ⟨d'.put a b c, Ev.put _ _ _, 400 + r, rfl, by omega, by omega⟩
  · rw [dictL5]
    exact k t S' hp d' ev
end
end K01

set_option Elab.async false
set_option linter.all false
set_option maxRecDepth 100000
set_option maxHeartbeats 1000000
namespace K01
open PySem PySem.Spec PyProof.Rows L2 LamX Fd
/-! ### dict comprehensions over texts -/
section
variable {S : Sto} {E : Nat → Sto → Prop} {Q : D → Sto → Prop} {σ : En} {ld : Nat}
theorem dcL_str {α : Type} {bod : D → M (Option (D × D))} (enc : α → D) (nm : α → Str) (v : α → D) {S0 : Sto} (f : Fre S0) : ∀ (xs : List α) (acc : List (DK × D)), (∀ x ∈ xs, ∀ S', bod (enc x) S' = .ok (some (.str (nm x), v x)) S') → (acc.map (·.1) ++ xs.map fun x => DK.k (.inr (nm x))).Nodup → acc.length + xs.length ≤ sizeLine →
    Q (.ref S0.n) (S0.push (.dct false (acc ++ xs.map fun x => (DK.k (.inr (nm x)), v x)))) → wp (dcL bod S0.n (xs.map enc)) (S0.push (.dct false acc)) Q E
  | [], acc, _, _, _, h => by
    rw [List.map_nil, List.append_nil] at h
    exact h
  | x :: xs, acc, hb, hn, hz, h => by
    rw [List.map_cons]
    unfold dcL
    rw [wp_bind]
    refine wp_nox (wp_of (hb x List.mem_cons_self _) ?_)
    simp only [wp_bind]
    rw [List.length_cons] at hz
    have hk : DK.k (.inr (nm x)) ∉ acc.map (·.1) := fun z => by
      rw [List.nodup_append] at hn
      exact hn.2.2 _ z _ (by rw [List.map_cons]; exact List.mem_cons_self) rfl
    have hp : putO S0.n (.str (nm x)) (v x) (S0.push (.dct false acc)) = .ok () (S0.push (.dct false (acc ++ [(DK.k (.inr (nm x)), v x)]))) := by
      unfold putO
      rw [push_at]
      show (if (S0.push (.dct false acc)).locked S0.n = false ∧ acc.length < sizeLine then _ else _ : Fd.R Unit) = _
      rw [if_pos ⟨f.no (Nat.le_refl _), by omega⟩, push_put]
      show Fd.R.ok () (S0.push (.dct false (Fd.put acc (.k (.inr (nm x))) (v x)))) = _
      rw [put_new (val_app_none (v := v x) hk)]
    rw [wp_eq hp]
    refine dcL_str enc nm v f xs _ (fun y hy => hb y (List.mem_cons_of_mem _ hy)) ?_ ?_ ?_
    · rw [List.map_append, List.append_assoc]
      exact hn
    · rw [List.length_append, List.length_singleton]
      omega
    · rw [List.append_assoc]
      exact h
theorem dcE_str {α : Type} {fit : En → M (List D)} {vs : List Nat} {g : D → En → M En} {t : En → M Bool} {fk fv : En → M D} (enc : α → D) (xs : List α) (nm : α → Str) (v : α → D) (f : Fre S) (hit : fit σ S = .ok (xs.map enc) S) (hb : ∀ x ∈ xs, ∀ S', bodK vs g t fk fv σ (enc x) S' = .ok (some (.str (nm x), v x)) S')
    (hn : (xs.map fun x => DK.k (.inr (nm x))).Nodup) (hz : xs.length ≤ sizeLine) : dcE fit vs g t fk fv σ S = .ok (.ref S.n) (S.push (.dct false (xs.map fun x => (DK.k (.inr (nm x)), v x)))) := run_of fun Q E hq => by
  unfold dcE
  rw [wp_bind, wp_eq hit]
  exact dcL_str enc nm v f xs [] hb hn (by simpa using hz) hq
/-! ### sizes -/
def rowT (T : Nat → Tb) (i : Nat) : D := .tup [.str (nmOf "s" (i : Int)), tb (T i)]
def rowsT (n : Nat) (T : Nat → Tb) : List D := (List.range n).map (rowT T)
def szO (n : Nat) (T : Nat → Tb) : SO := .ins 1 [("rows", .tup (rowsT n T))]
theorem rowsT_len (n : Nat) (T : Nat → Tb) : (rowsT n T).length = n := by unfold rowsT; rw [List.length_map, List.length_range]
theorem rowsT_at {n : Nat} {T : Nat → Tb} {i : Nat} (h : i < n) : (rowsT n T)[i]? = some (rowT T i) := by
  unfold rowsT
  rw [List.getElem?_map, List.getElem?_range h]
  rfl
theorem fldZ_wp {n : Nat} {T : Nat → Tb} {ls : Nat} (h : S.objs[ls]? = some (szO n T)) : wp (fldO 1 "rows" (.ref ls)) S Q E = Q (.tup (rowsT n T)) S := by
  refine wp_eq ?_
  unfold fldO getF
  simp only [h]
  rfl
theorem lockF_wp {α : Type} {f : En → M α} {Q : α → Sto → Prop} {n : Nat} {T : Nat → Tb} {ls : Nat} (h0 : σ[0]? = some (some (.ref ls))) (h : S.objs[ls]? = some (szO n T)) : wp (lockQ (locF 0 1 "rows") f σ) S Q E = wp (f σ) S Q E := by
  have e : lockQ (locF 0 1 "rows") f σ S = f σ S := by
    unfold lockQ locF getF
    simp only [h0, h]
    rfl
  unfold wp
  rw [e]
theorem nmS_nodup {n : Nat} (hn : n ≤ 8) : ((List.range n).map fun i => DK.k (.inr (nmOf "s" ((i : Nat) : Int)))).Nodup := by
  have h : n = 0 ∨ n = 1 ∨ n = 2 ∨ n = 3 ∨ n = 4 ∨ n = 5 ∨ n = 6 ∨ n = 7 ∨ n = 8 := by omega
  rcases h with rfl | rfl | rfl | rfl | rfl | rfl | rfl | rfl | rfl <;> decide +kernel
theorem zipD_mem : ∀ {ds es : List D} {d : D}, d ∈ zipD ds es → ∃ (i : Nat) (a b : D), ds[i]? = some a ∧ es[i]? = some b ∧ d = .tup [a, b]
  | [], _, _, h => by unfold zipD at h; cases h
  | _ :: _, [], _, h => by unfold zipD at h; cases h
  | a :: ds, b :: es, d, h => by
    unfold zipD at h
    rcases List.mem_cons.mp h with rfl | h
    · exact ⟨0, a, b, rfl, rfl, rfl⟩
    · obtain ⟨i, x, y, h1, h2, h3⟩ := zipD_mem h
      exact ⟨i + 1, x, y, h1, h2, h3⟩
structure Tok (n : Nat) (T : Nat → Tb) : Prop where
  n1 : 1 ≤ n
  n4 : n ≤ 4
  ok : ∀ i, i < n → Ok (T i)
  up : ∀ i, i + 1 < n → ∀ m ∈ nm5, T i m ≤ T (i + 1) m
def nmsO (n : Nat) : SO := .dct false ((List.range n).map fun i => (DK.k (.inr (nmOf "s" ((i : Nat) : Int))), D.bl true))
def szS (S : Sto) (n : Nat) (T : Nat → Tb) : Sto := (S.push (szO n T)).push (nmsO n)
theorem dictTb {t : Tb} : dictL S (tb t) = some (kv5 t) := rfl
theorem dictTb_wp {fe : En → M D} {t : Tb} (h : fe σ S = .ok (tb t) S) : dictV (consA fe nilA) σ S = .ok (tb t) S := run_of fun Q E hq => dictV1_wp (by rw [wp_eq h, dictTb]; exact hq)
theorem initRows {n : Nat} {T : Nat → Tb} {ls lr : Nat} (hr : S.objs[lr]? = some (.lst (rowsT n T))) (hl : S.locked lr = false) (hn : n ≤ 4) : lockQ (locV 1) (genE (itSeq (getV 1)) [2, 3] (tupG 2 (consG (nameG 2) (consG (nameG 3) nilG))) yesT (tupV (consA (getV 2) (consA (dictV (consA (getV 3) nilA)) nilA))) chkAll finTup) [some (.ref ls), some (.ref lr), none, none, none, none] S = .ok (.tup (rowsT n T)) S := run_of fun Q E hq => by
  refine lockQ_wp (l := lr) (o := .lst (rowsT n T)) (by show locD S (.ref lr) = _; unfold locD; simp only [hr]) hl hr rfl ?_
  have ho' : ({ S with lck := lr :: S.lck } : Sto).objs[lr]? = some (.lst (rowsT n T)) := hr
  have hl' : ({ S with lck := lr :: S.lck } : Sto).locked lr = true := by
    show (lr :: S.lck).contains lr = true
    rw [List.contains_eq_mem]
    exact decide_eq_true List.mem_cons_self
  have hc : ∀ S2 : Sto, S2 = { S with lck := lr :: S.lck } → S2.lck = lr :: S.lck ∧ Q (.tup (rowsT n T)) { S2 with lck := S.lck } := fun S2 e => by subst e; exact ⟨rfl, hq⟩
  generalize hS2 : ({ S with lck := lr :: S.lck } : Sto) = S2 at ho' hl' hc ⊢
  refine genE_wp (rowT T) (List.range n) (fun i => some (rowT T i)) (run_of fun Q E hq => ?_) (fun i hi => run_of fun Q E hq => ?_) ?_ ?_
  · simp only [itSeq, getV, wp_bind, wp_pure, List.getElem?_cons_zero, List.getElem?_cons_succ, itRef_wp ho' hl']
    exact hq
  · have e : ∀ τ : En, τ[3]? = some (some (tb (T i))) → dictV (consA (getV 3) nilA) τ S2 = .ok (tb (T i)) S2 := fun τ h => dictTb_wp (run_of fun Q E hq => by simp only [getV, h, wp_pure]; exact hq)
    simp only [bodG, rowT, tupG, tupD, consG, nilG, nameG, yesT, wipeE, tup2_wp, getV, wp_bind, wp_pure, wp_ite, if_true, List.set_cons_zero, List.set_cons_succ, List.getElem?_cons_zero, List.getElem?_cons_succ, List.length_cons, List.length_nil, wp_eq (e [some (.ref ls), some (.ref lr), some (.str (nmOf "s" ((i : Nat) : Int))), some (tb (T i)), none, none] rfl)]
    exact hq
  · rw [List.length_range]
    have : 4 ≤ sizeLine := by decide
    omega
  · rw [filterMap_some]
    show S2.lck = lr :: S.lck ∧ Q (.tup ((List.range n).map (rowT T))) { S2 with lck := S.lck }
    exact hc S2 rfl
theorem lenT2_wp (ds : List D) : wp (lenC [.tup ds]) S Q E = Q (.int ds.length) S := wp_eq rfl
theorem ltI_wp (i j : Int) : wp (ltA (.int i) (.int j)) S Q E = Q (.bl (decide (i < j))) S := rfl
theorem init_ok {n : Nat} {T : Nat → Tb} {lr : Nat} (f : Fre S) (k : Tok n T) (hr : S.objs[lr]? = some (.lst (rowsT n T))) (hl : S.locked lr = false) : D_SizesInit [.ref S.n, .ref lr] (S.push (.ins 1 [])) = .ok .non (szS S n T) := run_of fun Q E hq => by
  have f1 : Fre (S.push (.ins 1 [])) := f.gr (Gr.push _ _)
  have hr1 : (S.push (.ins 1 [])).objs[lr]? = some (.lst (rowsT n T)) := (Gr.push _ _).at_ hr
  have e1 := initRows (ls := S.n) (S := S.push (.ins 1 [])) hr1 (by rw [(Gr.push _ _).locked]; exact hl) k.n4
  have hset : wp (setFld 1 "rows" (.ref S.n) (.tup (rowsT n T))) (S.push (.ins 1 [])) = fun (Q : Unit → Sto → Prop) (E : Nat → Sto → Prop) => Q () (S.push (szO n T)) := by
    funext Q E
    rw [setF_wp (push_at S (.ins 1 [])) (by rw [(Gr.push _ _).locked]; exact f.no (Nat.le_refl _)) (by decide), push_put]
    rfl
  have n1 := k.n1
  have n4 := k.n4
  unfold D_SizesInit bodyD dn_SizesInit
  rw [show startD 6 [.ref S.n, .ref lr] = [some (.ref S.n), some (.ref lr), none, none, none, none] from rfl]
  have hz : (S.push (szO n T)).objs[S.n]? = some (szO n T) := push_at _ _
  have fz : Fre (S.push (szO n T)) := f.gr (Gr.push _ _)
  simp only [seqS, fldS, wp_bind, wp_eq e1, getV, List.getElem?_cons_zero, wp_pure, hset]
  have hS : szS S n T = (S.push (szO n T)).push (nmsO n) := rfl
  rw [hS] at hq
  generalize S.push (szO n T) = S1 at hz fz hq ⊢
  have hz2 : (S1.push (nmsO n)).objs[S.n]? = some (szO n T) := (Gr.push _ _).at_ hz
  have e2 : dcE (itSeq (fldE 1 "rows" (getV 0))) [2, 3] (tupG 2 (consG (nameG 2) (consG (nameG 3) nilG))) yesT (getV 2) (cst (.bl true)) [some (.ref S.n), some (.ref lr), none, none, none, none] S1 = .ok (.ref S1.n) (S1.push (nmsO n)) := by
    refine dcE_str (rowT T) (List.range n) (fun i => nmOf "s" ((i : Nat) : Int)) (fun _ => .bl true) fz (run_of fun Q E hq => ?_) (fun i _ S' => run_of fun Q E hq => ?_) (nmS_nodup (by omega)) (by rw [List.length_range]; exact Nat.le_trans n4 (by decide))
    · simp only [itSeq, fldE, getV, wp_bind, wp_pure, List.getElem?_cons_zero, fldZ_wp hz, itemsT_wp]
      exact hq
    · simp only [bodK, rowT, tupG, tupD, consG, nilG, nameG, yesT, wipeE, getV, cst, wp_bind, wp_pure, wp_ite, if_true, List.set_cons_zero, List.set_cons_succ, List.getElem?_cons_zero, List.getElem?_cons_succ, List.length_cons, List.length_nil]
      exact hq
  have eT0 : ∀ {Q : D → Sto → Prop} {E : Nat → Sto → Prop}, wp (eqT0 (.tup (rowsT n T)) (.tup [])) S1 Q E = Q (.bl false) S1 := by
    intro Q E
    refine wp_eq ?_
    show Fd.R.ok (D.bl (rowsT n T).isEmpty) S1 = _
    cases hh : rowsT n T with
    | nil => have := rowsT_len n T; rw [hh] at this; exact absurd this (by simp only [List.length_nil]; omega)
    | cons _ _ => rfl
  have lenN : ∀ {Q : D → Sto → Prop} {E : Nat → Sto → Prop}, wp (lenC [.ref S1.n]) (S1.push (nmsO n)) Q E = Q (.int n) (S1.push (nmsO n)) := by
    intro Q E
    have h := lenD_wp (Q := Q) (E := E) (push_at S1 (nmsO n))
    rw [h, List.length_map, List.length_range]
  simp only [ifS, orT, tst1, bin2, fldE, getV, wp_bind, wp_pure, wp_ite, List.getElem?_cons_zero, fldZ_wp hz, tup0_wp, eT0, wp_asB, Bool.false_eq_true, if_false, callE, consA, nilA, lockF_wp (show ([some (.ref S.n), some (.ref lr), none, none, none, none] : En)[0]? = some (some (.ref S.n)) from rfl) hz, wp_eq e2, lenN, fldZ_wp hz2, lenT2_wp, rowsT_len, ltI_wp, show decide ((n : Int) < (n : Int)) = false from decide_eq_false (by omega), skip]
  generalize S1.push (nmsO n) = S2 at hq hz2
  rw [lockF_wp rfl hz2]
  unfold forS
  rw [wp_bind]
  simp only [itSeq, fldE, getV, wp_bind, wp_pure, List.getElem?_cons_zero, fldZ_wp hz2, itemsT_wp]
  refine wp_loop (fun ds σ S' => (∀ d ∈ ds, ∃ i, i < n ∧ d = rowT T i) ∧ S' = S2 ∧ σ[0]? = some (some (.ref S.n)) ∧ σ.length = 6) (fun d ds σ S' h => ?_) (fun σ S' h => ?_) _ _ _ ⟨fun d hd => ?_, rfl, rfl, rfl⟩
  · obtain ⟨h1, rfl, h2, h3⟩ := h
    obtain ⟨i, hi, rfl⟩ := h1 _ List.mem_cons_self
    have l2 : 2 < σ.length := by omega
    have l3 : 3 < σ.length := by omega
    simp only [rowT, tupG, tupD, consG, nilG, nameG, wp_bind, wp_pure, wp_ite, List.length_cons, List.length_nil, if_true, L_SizesInit_b0, exprS, callE, consA, nilA, arg, getV, List.getElem?_set_self (show 3 < (σ.set 2 (some (D.str (nmOf "s" ((i : Nat) : Int))))).length by rw [List.length_set]; exact l3), wp_eq (check_ok (k.ok i hi))]
    exact ⟨fun d hd => h1 d (List.mem_cons_of_mem _ hd), trivial, by rw [List.getElem?_set_ne (by decide), List.getElem?_set_ne (by decide)]; exact h2, by rw [List.length_set, List.length_set]; exact h3⟩
  · obtain ⟨_, rfl, h2, h3⟩ := h
    have hcut : Fd.cutD (rowsT n T) (some 1) none = (rowsT n T).drop 1 := cut_from (k := 1) _ (by rw [rowsT_len]; exact n1)
    have hzip : ∀ {Q : List D → Sto → Prop} {E : Nat → Sto → Prop}, wp (zipC (.tup (rowsT n T)) (.tup ((rowsT n T).drop 1))) S' Q E = Q (zipD (rowsT n T) ((rowsT n T).drop 1)) S' := fun {Q E} => wp_eq rfl
    simp only [forS, zipS, fldE, sliceE, partD, cst, wp_bind, getV, h2, wp_pure, fldZ_wp hz2, slT_wp, hcut, hzip]
    refine wp_loop (fun ds σ S2 => (∀ d ∈ ds, ∃ i, i + 1 < n ∧ d = .tup [rowT T i, rowT T (i + 1)]) ∧ S2 = S' ∧ σ.length = 6) (fun d ds σ S2 h => ?_) (fun σ S2 h => ?_) _ _ _ ⟨fun d hd => ?_, rfl, h3⟩
    · obtain ⟨h1, rfl, h3⟩ := h
      obtain ⟨i, hi, rfl⟩ := h1 _ List.mem_cons_self
      have l4 : 4 < σ.length := by omega
      have l5 : 5 < σ.length := by omega
      have l2 : 2 < σ.length := by omega
      have hu := k.up i hi
      have i1 : ∀ {a b : D} {Q : D → Sto → Prop} {E : Nat → Sto → Prop}, wp (itemO (.tup [a, b]) (.int 1)) S2 Q E = Q b S2 := fun {a b Q E} => ix1_wp a b
      simp only [tupG, tupD, consG, nilG, nameG, wp_bind, wp_pure, wp_ite, List.length_cons, List.length_nil, if_true]
      obtain ⟨τ, hτ⟩ : ∃ τ, τ = (σ.set 4 (some (rowT T i))).set 5 (some (rowT T (i + 1))) := ⟨_, rfl⟩
      rw [← hτ]
      have t4 : τ[4]? = some (some (rowT T i)) := by rw [hτ, List.getElem?_set_ne (by decide), List.getElem?_set_self l4]
      have t5 : τ[5]? = some (some (rowT T (i + 1))) := by rw [hτ, List.getElem?_set_self (by rw [List.length_set]; exact l5)]
      have tl : τ.length = 6 := by rw [hτ, List.length_set, List.length_set]; exact h3
      have t2 : 2 < τ.length := by omega
      have g : genE (itSeq (cst (.kt [.str "chest", .str "waist", .str "hip", .str "back", .str "sleeve"]))) [2] (nameG 2) yesT (bin2 gtI (bin2 itemO (bin2 itemO (getV 4) (cst (.int 1))) (getV 2)) (bin2 itemO (bin2 itemO (getV 5) (cst (.int 1))) (getV 2))) (chkB true) (finB false) τ S2 = .ok (.bl false) S2 := by
        rw [genA_ok D.str nm5 (fun m => decide (T (i + 1) m < T i m)) itNs_ok (fun m hm => run_of fun Q E hq => ?_)]
        · rw [show nm5.any (fun m => decide (T (i + 1) m < T i m)) = false from ?_]
          rw [List.any_eq_false]
          intro m hm
          have := hu m hm
          simp only [decide_eq_true_eq]
          omega
        · have t2' : 2 < (τ.set 2 none).length := by rw [List.length_set]; exact t2
          have q4 : ((τ.set 2 none).set 2 (some (D.str m)))[4]? = some (some (rowT T i)) := by rw [List.getElem?_set_ne (by decide), List.getElem?_set_ne (by decide)]; exact t4
          have q5 : ((τ.set 2 none).set 2 (some (D.str m)))[5]? = some (some (rowT T (i + 1))) := by rw [List.getElem?_set_ne (by decide), List.getElem?_set_ne (by decide)]; exact t5
          simp only [bodG, nameG, yesT, wipeE, bin2, getV, cst, wp_bind, wp_pure, wp_ite, if_true, q4, q5, List.getElem?_set_self t2', rowT, i1, it5_wp hm, wp_gtI]
          exact hq
      simp only [L_SizesInit_b1, ifS, tst1, wp_bind, wp_eq g, wp_asB, wp_ite, Bool.false_eq_true, if_false, skip, wp_pure]
      exact ⟨fun d hd => h1 d (List.mem_cons_of_mem _ hd), trivial, tl⟩
    · obtain ⟨_, rfl, _⟩ := h
      exact hq
    · obtain ⟨i, a, b, ha, hb, rfl⟩ := zipD_mem hd
      rw [List.getElem?_drop] at hb
      have hi : 1 + i < n := by
        have h4 := (List.getElem?_eq_some_iff.mp hb).1
        rw [rowsT_len] at h4
        exact h4
      rw [rowsT_at (by omega)] at ha
      rw [rowsT_at hi] at hb
      cases ha
      cases hb
      exact ⟨i, by omega, by rw [Nat.add_comm 1 i]⟩
  · unfold rowsT at hd
    obtain ⟨i, hi, rfl⟩ := List.mem_map.mp hd
    exact ⟨i, List.mem_range.mp hi, rfl⟩
theorem szS_at (S : Sto) (n : Nat) (T : Nat → Tb) : (szS S n T).objs[S.n]? = some (szO n T) := (Gr.push _ _).at_ (push_at _ _)
theorem szS_gr (S : Sto) (n : Nat) (T : Nat → Tb) : Gr S (szS S n T) := (Gr.push _ _).trans (Gr.push _ _)
theorem make_ok {n : Nat} {T : Nat → Tb} {lr : Nat} (f : Fre S) (k : Tok n T) (hr : S.objs[lr]? = some (.lst (rowsT n T))) (hl : S.locked lr = false) : makeO 1 (arg 2 D_SizesInit) [.ref lr] S = .ok (.ref S.n) (szS S n T) := by
  unfold makeO
  have e : arg 2 D_SizesInit [.ref S.n, .ref lr] (S.push (.ins 1 [])) = .ok .non (szS S n T) := init_ok f k hr hl
  rw [e]
end
end K01

set_option Elab.async false
set_option linter.all false
set_option maxRecDepth 100000
set_option maxHeartbeats 1000000
namespace K01
open PySem PySem.Spec PyProof.Rows L2 LamX Fd
section
variable {S : Sto} {E : Nat → Sto → Prop} {Q : D → Sto → Prop} {σ : En} {ld : Nat}
/-! ### loops over a range -/
theorem wp_loopR {g : D → En → M En} {b : En → M Fl} {Q : Fl → Sto → Prop} (enc : Nat → D) (n : Nat) (I : Nat → En → Sto → Prop) (step : ∀ i σ S, i < n → I i σ S → wp (g (enc i) σ) S (fun σ1 S1 => wp (b σ1) S1 (fun fl S2 => match fl with
    | .nx σ2 => I (i + 1) σ2 S2
    | .ct σ2 => I (i + 1) σ2 S2
    | .bk σ2 => Q (.nx σ2) S2
    | .rt d => Q (.rt d) S2) E) E) (done : ∀ σ S, I n σ S → Q (.nx σ) S) (h0 : I 0 σ S) : wp (loopM g b ((List.range n).map enc) σ) S Q E := by
  refine wp_loop (fun ds σ S => ∃ i, i ≤ n ∧ ds = (List.range' i (n - i)).map enc ∧ I i σ S) (fun d ds σ S h => ?_) (fun σ S h => ?_) _ _ _ ⟨0, Nat.zero_le _, by rw [List.range_eq_range']; rfl, h0⟩
  · obtain ⟨i, hi, hd, hI⟩ := h
    obtain ⟨m, hm⟩ : ∃ m, n - i = m + 1 := by
      cases e : n - i with
      | zero => rw [e] at hd; cases hd
      | succ m => exact ⟨m, rfl⟩
    rw [hm, List.range'_succ, List.map_cons] at hd
    injection hd with h1 h2
    subst h1 h2
    refine wp_mono (step i σ S (by omega) hI) (fun σ1 S1 h1 => wp_mono h1 (fun fl S2 h2 => ?_) fun _ _ z => z) fun _ _ z => z
    have hn : n - (i + 1) = m := by omega
    cases fl with
    | nx σ2 => exact ⟨i + 1, by omega, by rw [hn], h2⟩
    | ct σ2 => exact ⟨i + 1, by omega, by rw [hn], h2⟩
    | bk σ2 => exact h2
    | rt d => exact h2
  · obtain ⟨i, hi, hd, hI⟩ := h
    have : n - i = 0 := by
      cases e : n - i with
      | zero => rfl
      | succ m => rw [e, List.range'_succ] at hd; cases hd
    have : i = n := by omega
    subst this
    exact done σ S hI
theorem enumD_range' (f : Nat → D) : ∀ m k, enumD k ((List.range' k m).map f) = (List.range' k m).map fun i => .tup [.int (i : Int), f i]
  | 0, _ => rfl
  | m + 1, k => by
    rw [List.range'_succ, List.map_cons, List.map_cons]
    unfold enumD
    rw [enumD_range' f m (k + 1)]
theorem enumD_range (f : Nat → D) (n : Nat) : enumD 0 ((List.range n).map f) = (List.range n).map fun i => .tup [.int (i : Int), f i] := by
  rw [List.range_eq_range']
  exact enumD_range' f n 0
theorem nmS_inj {i j : Nat} (hi : i < 8) (hj : j < 8) (h : nmOf "s" (i : Int) = nmOf "s" (j : Int)) : i = j := by
  have k : ∀ a b : Fin 8, nmOf "s" ((a : Nat) : Int) = nmOf "s" ((b : Nat) : Int) → a = b := by decide +kernel
  exact congrArg Fin.val (k ⟨i, hi⟩ ⟨j, hj⟩ h)
/-! ### size -/
theorem size_ok {n : Nat} {T : Nat → Tb} {ls j : Nat} (hz : S.objs[ls]? = some (szO n T)) (k : Tok n T) (hj : j < n) : D_SizesSize [.ref ls, .str (nmOf "s" (j : Int))] S = .ok (tb (T j)) S := run_of fun Q E hq => by
  have n4 := k.n4
  unfold D_SizesSize bodyD dn_SizesSize
  rw [show startD 4 [.ref ls, .str (nmOf "s" (j : Int))] = [some (.ref ls), some (.str (nmOf "s" (j : Int))), none, none] from rfl]
  simp only [seqS, wp_bind]
  rw [lockF_wp rfl hz]
  simp only [forS, itSeq, fldE, getV, wp_bind, wp_pure, List.getElem?_cons_zero, fldZ_wp hz, itemsT_wp]
  refine wp_loopR (rowT T) n (fun i σ S' => S' = S ∧ i ≤ j ∧ ∃ x y, σ = [some (.ref ls), some (.str (nmOf "s" (j : Int))), x, y]) (fun i σ S' hi h => ?_) (fun σ S' h => ?_) ⟨rfl, Nat.zero_le _, none, none, rfl⟩
  · obtain ⟨rfl, h2, x, y, rfl⟩ := h
    have e : ∀ τ : En, τ[3]? = some (some (tb (T i))) → dictV (consA (getV 3) nilA) τ S' = .ok (tb (T i)) S' := fun τ h => dictTb_wp (run_of fun Q E hq => by simp only [getV, h, wp_pure]; exact hq)
    simp only [rowT, tupG, tupD, consG, nilG, nameG, wp_bind, wp_pure, wp_ite, List.length_cons, List.length_nil, if_true, L_SizesSize_b0, ifS, tst1, bin2, getV, List.set_cons_zero, List.set_cons_succ, List.getElem?_cons_zero, List.getElem?_cons_succ, eqS_wp, wp_asB, retS, skip, wp_eq (e [some (.ref ls), some (.str (nmOf "s" (j : Int))), some (.str (nmOf "s" ((i : Nat) : Int))), some (tb (T i))] rfl)]
    by_cases hij : nmOf "s" ((i : Nat) : Int) = nmOf "s" (j : Int)
    · rw [if_pos (decide_eq_true hij)]
      have := nmS_inj (by omega) (by omega) hij
      subst this
      exact hq
    · rw [if_neg (by rw [decide_eq_true_eq]; exact hij)]
      refine ⟨trivial, ?_, _, _, rfl⟩
      rcases Nat.lt_or_ge i j with z | z
      · exact z
      · exact absurd (by rw [show i = j by omega]) hij
  · obtain ⟨_, h2, _⟩ := h
    omega
/-! ### nearest -/
def enc3 (p : Int × Int × Str) : D := .tup [.int p.1, .int p.2.1, .str p.2.2]
def py3 (p : Int × Int × Str) : PyData := .tuple [.int p.1, .int p.2.1, .str p.2.2]
theorem srt3 : Srt enc3 py3 S := ⟨fun _ => rfl, fun a b => by simp [py3, PySem.W.alike, PySem.W.alikeAll], fun _ => rfl⟩
theorem lt3 (p q : Int × Int × Str) (h : p.2.1 ≠ q.2.1) : PySem.W.dataLt (py3 p) (py3 q) = decide (p.1 < q.1 ∨ (p.1 = q.1 ∧ p.2.1 < q.2.1)) := by
  have ai : ∀ x y : Int, PySem.W.alike (.int x) (.int y) = true := fun x y => by simp [PySem.W.alike]
  unfold py3
  rw [PySem.W.dataLt_tuple, PySem.W.dataLt_cons (ai _ _), eqv_int, PySem.W.dataLt_int, PySem.W.dataLt_cons (ai _ _), eqv_int, PySem.W.dataLt_int]
  by_cases e : p.1 = q.1
  · simp [e, h]
  · simp [e]
def keyN (p : Tb) (T : Nat → Tb) (i : Nat) : Int × Int := (far5 p (T i), (i : Int))
theorem nearest_ok {n : Nat} {T : Nat → Tb} {ls : Nat} {p : Tb} (hz : S.objs[ls]? = some (szO n T)) (k : Tok n T) (hp : Ok p) : ∃ j, j < n ∧ LeastP py2 (keyN p T j) ((List.range n).map (keyN p T)) ∧ D_SizesNearest [.ref ls, tb p] S = .ok (.str (nmOf "s" (j : Int))) S := by
  have key : wp (D_SizesNearest [.ref ls, tb p]) S (fun d S' => S' = S ∧ ∃ j, j < n ∧ LeastP py2 (keyN p T j) ((List.range n).map (keyN p T)) ∧ d = .str (nmOf "s" (j : Int))) fun _ _ => False := by
    have n4 := k.n4
    have n1 := k.n1
    unfold D_SizesNearest bodyD dn_SizesNearest
    rw [show startD 7 [.ref ls, tb p] = [some (.ref ls), some (tb p), none, none, none, none, none] from rfl]
    simp only [seqS, setS, cst, wp_bind, wp_pure, List.set_cons_zero, List.set_cons_succ]
    rw [lockF_wp rfl hz]
    have hE : ∀ {Q : List D → Sto → Prop} {E : Nat → Sto → Prop}, wp (enumC (.tup (rowsT n T))) S Q E = Q ((List.range n).map fun (i : Nat) => .tup [.int (i : Int), rowT T i]) S := fun {Q E} => wp_eq (by
      show Fd.R.ok (enumD 0 (rowsT n T)) S = _
      unfold rowsT
      rw [enumD_range])
    simp only [forS, enumS, fldE, getV, wp_bind, wp_pure, List.getElem?_cons_zero, fldZ_wp hz, hE]
    refine wp_loopR (fun (i : Nat) => .tup [.int (i : Int), rowT T i]) n (fun i σ S' => S' = S ∧ ∃ x y z w best, σ = [some (.ref ls), some (tb p), some best, x, y, z, w] ∧ ((i = 0 ∧ best = .non) ∨ ∃ j, j < i ∧ best = enc3 (far5 p (T j), (j : Int), nmOf "s" (j : Int)) ∧ ∀ x < i, far5 p (T j) < far5 p (T x) ∨ (far5 p (T j) = far5 p (T x) ∧ j ≤ x))) (fun i σ S' hi h => ?_) (fun σ S' h => ?_) ⟨rfl, none, none, none, none, .non, rfl, .inl ⟨rfl, rfl⟩⟩
    · obtain ⟨rfl, x, y, z, w, best, rfl, hb⟩ := h
      simp only [rowT, tupG, tupD, consG, nilG, nameG, wp_bind, wp_pure, wp_ite, List.length_cons, List.length_nil, if_true, L_SizesNearest_b0, seqS, setS, tup3_wp, callE, consA, nilA, arg, getV, List.set_cons_zero, List.set_cons_succ, List.getElem?_cons_zero, List.getElem?_cons_succ, show ((0 : Nat) + 1 + 1 = 2) = True from eq_true rfl, wp_eq (far_ok hp (k.ok i hi)), ifV, orT, tst1, bin2, cst]
      rcases hb with ⟨rfl, rfl⟩ | ⟨j, hj, rfl, hmin⟩
      · have e : ∀ {Q : D → Sto → Prop} {E : Nat → Sto → Prop}, wp (isN .non .non) S' Q E = Q (.bl true) S' := fun {Q E} => wp_eq rfl
        simp only [e, wp_asB, if_true, wp_pure]
        exact ⟨trivial, _, _, _, _, _, rfl, .inr ⟨0, by omega, rfl, fun x hx => by
          have : x = 0 := by omega
          subst this
          exact .inr ⟨rfl, Nat.le_refl _⟩⟩⟩
      · have e : ∀ {Q : D → Sto → Prop} {E : Nat → Sto → Prop} {q : Int × Int × Str}, wp (isN (enc3 q) .non) S' Q E = Q (.bl false) S' := fun {Q E q} => wp_eq rfl
        have e2 : ∀ {Q : D → Sto → Prop} {E : Nat → Sto → Prop}, wp (ltA (.tup [.int (far5 p (T i)), .int (i : Int), .str (nmOf "s" (i : Int))]) (enc3 (far5 p (T j), (j : Int), nmOf "s" (j : Int)))) S' Q E = Q (.bl (decide (far5 p (T i) < far5 p (T j)))) S' := fun {Q E} => by
          refine wp_eq ((ltX_ok srt3 (fun _ => rfl) (far5 p (T i), (i : Int), nmOf "s" (i : Int)) _).trans ?_)
          rw [lt3 _ _ (by simp only; omega)]
          simp only
          congr 3
          have : ¬ ((i : Int) < (j : Int)) := by omega
          simp [this]
        simp only [e, e2, wp_asB, Bool.false_eq_true, if_false, decide_eq_true_eq]
        by_cases hlt : far5 p (T i) < far5 p (T j)
        · rw [if_pos hlt]
          exact ⟨trivial, _, _, _, _, _, rfl, .inr ⟨i, by omega, rfl, fun x hx => by
            rcases Nat.lt_or_ge x i with hx' | hx'
            · have := hmin x hx'
              omega
            · have : x = i := by omega
              subst this
              exact .inr ⟨rfl, Nat.le_refl _⟩⟩⟩
        · rw [if_neg hlt]
          exact ⟨trivial, _, _, _, _, _, rfl, .inr ⟨j, by omega, rfl, fun x hx => by
            rcases Nat.lt_or_ge x i with hx' | hx'
            · exact hmin x hx'
            · have : x = i := by omega
              subst this
              omega⟩⟩
    · obtain ⟨rfl, x, y, z, w, best, rfl, hb⟩ := h
      rcases hb with ⟨h0, _⟩ | ⟨j, hj, rfl, hmin⟩
      · omega
      · have e : ∀ {Q : D → Sto → Prop} {E : Nat → Sto → Prop} {q : Int × Int × Str}, wp (itemO (enc3 q) (.int 2)) S' Q E = Q (.str q.2.2) S' := fun {Q E q} => wp_eq rfl
        simp only [retS, bin2, getV, cst, wp_bind, wp_pure, List.getElem?_cons_zero, List.getElem?_cons_succ, e]
        refine ⟨trivial, j, hj, ⟨List.mem_map.mpr ⟨j, List.mem_range.mpr hj, rfl⟩, fun x hx => ?_⟩, rfl⟩
        obtain ⟨i, hi, rfl⟩ := List.mem_map.mp hx
        rw [lt2, decide_eq_false_iff_not]
        have := hmin i (List.mem_range.mp hi)
        unfold keyN
        simp only
        omega
  obtain ⟨d, S', e, rfl, j, h1, h2, rfl⟩ := wp_out key
  exact ⟨j, h1, h2, e⟩
end
end K01

set_option Elab.async false
set_option linter.all false
set_option maxRecDepth 100000
set_option maxHeartbeats 1000000
namespace K01
open PySem PySem.Spec PyProof.Rows L2 LamX Fd
section
variable {S : Sto} {E : Nat → Sto → Prop} {Q : D → Sto → Prop} {σ : En} {ld : Nat}
/-! ### roomy -/
def fits (p : Tb) (T : Nat → Tb) (i : Nat) : Bool := nm5.all fun m => decide (p m ≤ T i m)
def roomD (p : Tb) (T : Nat → Tb) (n : Nat) : D := match (List.range n).find? (fits p T) with
  | some i => .str (nmOf "s" (i : Int))
  | none => .non
theorem roomy_ok {n : Nat} {T : Nat → Tb} {ls : Nat} {p : Tb} (hz : S.objs[ls]? = some (szO n T)) (k : Tok n T) (hp : Ok p) : D_SizesRoomy [.ref ls, tb p] S = .ok (roomD p T n) S := run_of fun Q E hq => by
  unfold D_SizesRoomy bodyD dn_SizesRoomy
  rw [show startD 5 [.ref ls, tb p] = [some (.ref ls), some (tb p), none, none, none] from rfl]
  simp only [seqS, exprS, callE, consA, nilA, arg, getV, wp_bind, wp_pure, wp_ite, List.getElem?_cons_zero, List.getElem?_cons_succ, List.length_cons, List.length_nil, show ((0 : Nat) + 1 = 1) = True from eq_true rfl, if_true, wp_eq (check_ok hp)]
  rw [lockF_wp rfl hz]
  simp only [forS, itSeq, fldE, getV, wp_bind, wp_pure, List.getElem?_cons_zero, fldZ_wp hz, itemsT_wp]
  refine wp_loop (fun ds σ S' => S' = S ∧ ∃ is : List Nat, ds = is.map (rowT T) ∧ (∀ i ∈ is, i < n) ∧ (List.range n).find? (fits p T) = is.find? (fits p T) ∧ ∃ x y z, σ = [some (.ref ls), some (tb p), x, y, z]) (fun d ds σ S' h => ?_) (fun σ S' h => ?_) _ _ _ ⟨rfl, List.range n, rfl, fun i hi => List.mem_range.mp hi, rfl, none, none, none, rfl⟩
  · obtain ⟨rfl, is, hd, hi, hf, x, y, z, rfl⟩ := h
    match is, hd, hi, hf with
    | i :: is, hd, hi, hf =>
      rw [List.map_cons] at hd
      injection hd with h1 h2
      subst h1 h2
      have g : genE (itSeq (cst (.kt [.str "chest", .str "waist", .str "hip", .str "back", .str "sleeve"]))) [4] (nameG 4) yesT (bin2 leI (bin2 itemO (getV 1) (getV 4)) (bin2 itemO (getV 3) (getV 4))) (chkB false) (finB true) [some (.ref ls), some (tb p), some (.str (nmOf "s" (i : Int))), some (tb (T i)), z] S' = .ok (.bl (fits p T i)) S' := by
        rw [genAll_ok D.str nm5 (fun m => decide (p m ≤ T i m)) itNs_ok (fun m hm => run_of fun Q E hq => ?_)]
        · rfl
        · simp only [bodG, nameG, yesT, wipeE, bin2, getV, cst, wp_bind, wp_pure, wp_ite, if_true, List.set_cons_zero, List.set_cons_succ, List.getElem?_cons_zero, List.getElem?_cons_succ, it5_wp hm, wp_leI]
          exact hq
      simp only [rowT, tupG, tupD, consG, nilG, nameG, wp_bind, wp_pure, wp_ite, List.length_cons, List.length_nil, if_true, L_SizesRoomy_b0, ifS, tst1, List.set_cons_zero, List.set_cons_succ, wp_eq g, wp_asB, retS, getV, List.getElem?_cons_zero, List.getElem?_cons_succ, skip]
      rw [List.find?_cons] at hf
      by_cases e : fits p T i = true
      · rw [if_pos e]
        simp only [e] at hf
        unfold roomD at hq
        rw [hf] at hq
        exact hq
      · rw [if_neg e]
        rw [Bool.not_eq_true] at e
        simp only [e] at hf
        exact ⟨trivial, is, rfl, fun j hj => hi j (List.mem_cons_of_mem _ hj), hf, _, _, _, rfl⟩
  · obtain ⟨rfl, is, hd, hi, hf, x, y, z, rfl⟩ := h
    have : is = [] := by cases is with
      | nil => rfl
      | cons _ _ => cases hd
    subst this
    unfold roomD at hq
    rw [hf] at hq
    simp only [retS, cst, wp_bind, wp_pure]
    exact hq
/-! ### between -/
def mixI (T : Nat → Tb) (a b : Nat) (part whole : Int) : Tb := fun m => T a m * (whole - part) + T b m * part
def betI (T : Nat → Tb) (a b : Nat) (part whole : Int) : Tb := fun m => (2 * mixI T a b part whole m + whole) / (2 * whole)
theorem mix_wp {x : Int} {w : Int} (h0 : 0 ≤ w) (h : w ≤ 9) {S : Sto} {Q : D → Sto → Prop} {E : Nat → Sto → Prop} : wp (mulA (.int x) (.int w)) S Q E = Q (.int (x * w)) S := wp_mulI (.inr (by omega))
theorem lk1 {m : Str} {d : D} (hm : m ≠ "rows") : ([(("rows" : Str), d)] : List (Str × D)).lookup m = none := by
  have h : (m == ("rows" : Str)) = false := beq_eq_false_iff_ne.mpr hm
  unfold List.lookup
  rw [h]
  rfl
theorem gf1 {n : Nat} {T : Nat → Tb} {ls : Nat} (hz : S.objs[ls]? = some (szO n T)) : getF 1 S (.ref ls) = some (ls, [(("rows" : Str), D.tup (rowsT n T))]) := by
  unfold getF
  simp only [hz]
  rfl
theorem chk1 {fs : List (Str × D)} {m : Str} {x : D} {l : Nat} (h : getF 1 S x = some (l, fs)) (h2 : fs.lookup m = none) : chkM 1 m x S = .ok () S := by
  unfold chkM
  rw [h]
  simp only [h2, Option.isNone_none, if_true]
theorem methZ {n : Nat} {T : Nat → Tb} {ls : Nat} {m : Str} (hz : S.objs[ls]? = some (szO n T)) (hm : m ≠ "rows") {Q : Unit → Sto → Prop} : wp (chkM 1 m (.ref ls)) S Q E = Q () S :=
  wp_eq (chk1 (gf1 hz) (lk1 hm))
theorem nd5 : (nm5.map fun m => DK.k (.inr m)).Nodup := by decide +kernel
def betE : En → M D := (bin2 fdvI (bin2 addA (bin2 mulA (cst (.int 2)) (bin2 addA (bin2 mulA (bin2 itemO (getV 5) (getV 7)) (bin2 subI (getV 4) (getV 3))) (bin2 mulA (bin2 itemO (getV 6) (getV 7)) (getV 3)))) (getV 4)) (bin2 mulA (cst (.int 2)) (getV 4)))
theorem betE_ok {T : Nat → Tb} {a b : Nat} {part whole : Int} {m : Str} (hm : m ∈ nm5) (w1 : 1 ≤ whole) (w9 : whole ≤ 9) (p0 : 0 ≤ part) (p1 : part ≤ whole) (h3 : σ[3]? = some (some (.int part))) (h4 : σ[4]? = some (some (.int whole))) (h5 : σ[5]? = some (some (tb (T a)))) (h6 : σ[6]? = some (some (tb (T b)))) (h7 : σ[7]? = some (some (.str m))) : betE σ S = .ok (.int (betI T a b part whole m)) S := run_of fun Q E hq => by
  have m2 : ∀ {x : Int} {Q : D → Sto → Prop} {E : Nat → Sto → Prop}, wp (mulA (.int 2) (.int x)) S Q E = Q (.int (2 * x)) S := fun {x Q E} => wp_mulI (.inl (by decide))
  have q1 : 0 ≤ whole - part := by omega
  have q2 : whole - part ≤ 9 := by omega
  have q3 : part ≤ 9 := by omega
  have q4 : 0 < 2 * whole := by omega
  have q5 : 2 * whole < 1073741824 := by omega
  unfold betE
  simp only [bin2, getV, cst, wp_bind, wp_pure, h3, h4, h5, h6, h7, it5_wp hm, wp_subI, mix_wp q1 q2, mix_wp p0 q3, wp_addI, m2, wp_fdvI q4 q5]
  exact hq
theorem between_ok {n : Nat} {T : Nat → Tb} {ls a b : Nat} {part whole : Int} (f : Fre S) (hz : S.objs[ls]? = some (szO n T)) (k : Tok n T) (ha : a < n) (hb : b < n) (w1 : 1 ≤ whole) (w9 : whole ≤ 9) (p0 : 0 ≤ part) (p1 : part ≤ whole) :
    D_SizesBetween [.ref ls, .str (nmOf "s" (a : Int)), .str (nmOf "s" (b : Int)), .int part, .int whole] S = .ok (.ref S.n) (S.push (.dct false (kv5 (betI T a b part whole)))) := run_of fun Q E hq => by
  unfold D_SizesBetween bodyD dn_SizesBetween
  rw [show startD 8 [.ref ls, .str (nmOf "s" (a : Int)), .str (nmOf "s" (b : Int)), .int part, .int whole] = [some (.ref ls), some (.str (nmOf "s" (a : Int))), some (.str (nmOf "s" (b : Int))), some (.int part), some (.int whole), none, none, none] from rfl]
  have e : dcE (itSeq (cst (.kt [.str "chest", .str "waist", .str "hip", .str "back", .str "sleeve"]))) [7] (nameG 7) yesT (getV 7) (bin2 fdvI (bin2 addA (bin2 mulA (cst (.int 2)) (bin2 addA (bin2 mulA (bin2 itemO (getV 5) (getV 7)) (bin2 subI (getV 4) (getV 3))) (bin2 mulA (bin2 itemO (getV 6) (getV 7)) (getV 3)))) (getV 4)) (bin2 mulA (cst (.int 2)) (getV 4)))
      [some (.ref ls), some (.str (nmOf "s" (a : Int))), some (.str (nmOf "s" (b : Int))), some (.int part), some (.int whole), some (tb (T a)), some (tb (T b)), none] S = .ok (.ref S.n) (S.push (.dct false (kv5 (betI T a b part whole)))) := by
    refine (dcE_str D.str nm5 (fun m => m) (fun m => .int (betI T a b part whole m)) f itNs_ok (fun m hm S' => run_of fun Q E hq => ?_) nd5 (by decide)).trans ?_
    · have e2 := betE_ok (S := S') (σ := [some (.ref ls), some (.str (nmOf "s" (a : Int))), some (.str (nmOf "s" (b : Int))), some (.int part), some (.int whole), some (tb (T a)), some (tb (T b)), some (.str m)]) (T := T) hm w1 w9 p0 p1 rfl rfl rfl rfl rfl
      show wp (bodK [7] (nameG 7) yesT (getV 7) betE _ _) S' Q E
      simp only [bodK, nameG, yesT, wipeE, getV, wp_bind, wp_pure, wp_ite, if_true, List.set_cons_zero, List.set_cons_succ, List.getElem?_cons_zero, List.getElem?_cons_succ, wp_eq e2]
      exact hq
    · unfold kv5 rw5
      rw [List.map_map]
      rfl
  have hsz : ("size" : Str) ≠ "rows" := by decide +kernel
  simp only [seqS, asgS, tup2_wp, methE, getV, wp_bind, wp_pure, wp_ite, List.getElem?_cons_zero, List.getElem?_cons_succ, methZ hz hsz, consA, nilA, arg, List.length_cons, List.length_nil, show ((0 : Nat) + 1 + 1 = 2) = True from eq_true rfl, if_true, wp_eq (size_ok hz k ha), wp_eq (size_ok hz k hb), tupG, tupD, consG, nilG, nameG, List.set_cons_zero, List.set_cons_succ, ifS, orT, notT, tst1, bin2, chainV, cst, ltI_wp, wp_leI, wp_asB, show decide (whole < 1) = false from decide_eq_false (by omega), Bool.false_eq_true, if_false, decide_eq_true p0, decide_eq_true p1, Bool.not_true, skip, retS, wp_eq e]
  exact hq
theorem round_eq {x w : Int} (w1 : 1 ≤ w) (w9 : w ≤ 9) : (2 * x + w) / (2 * w) = x / w + (if decide (w ≤ 2 * (x % w)) = true then 1 else 0) := by
  have h : w = 1 ∨ w = 2 ∨ w = 3 ∨ w = 4 ∨ w = 5 ∨ w = 6 ∨ w = 7 ∨ w = 8 ∨ w = 9 := by omega
  rcases h with rfl | rfl | rfl | rfl | rfl | rfl | rfl | rfl | rfl <;> (simp only [decide_eq_true_eq]; split <;> omega)
/-! ### alterations -/
def altR (p t : Tb) : List D := (nm5.filter fun m => !decide (p m = t m)).map fun m => .tup [.str m, .int (p m - t m)]
theorem alter_ok {n : Nat} {T : Nat → Tb} {ls a : Nat} {p : Tb} (hz : S.objs[ls]? = some (szO n T)) (k : Tok n T) (ha : a < n) (hp : Ok p) : D_SizesAlterations [.ref ls, tb p, .str (nmOf "s" (a : Int))] S = .ok (.tup (altR p (T a))) S := run_of fun Q E hq => by
  unfold D_SizesAlterations bodyD dn_SizesAlterations
  rw [show startD 5 [.ref ls, tb p, .str (nmOf "s" (a : Int))] = [some (.ref ls), some (tb p), some (.str (nmOf "s" (a : Int))), none, none] from rfl]
  have g : wp (genE (itSeq (cst (.kt [.str "chest", .str "waist", .str "hip", .str "back", .str "sleeve"]))) [4] (nameG 4) (tst1 (bin2 neA (bin2 itemO (getV 1) (getV 4)) (bin2 itemO (getV 3) (getV 4)))) (tupV (consA (getV 4) (consA (bin2 subI (bin2 itemO (getV 1) (getV 4)) (bin2 itemO (getV 3) (getV 4))) nilA))) chkAll finTup [some (.ref ls), some (tb p), some (.str (nmOf "s" (a : Int))), some (tb (T a)), none]) S Q E := by
    refine genE_wp D.str nm5 (fun m => if (!decide (p m = T a m)) = true then some (.tup [.str m, .int (p m - T a m)]) else none) itNs_ok (fun m hm => run_of fun Q E hq => ?_) (by decide) ?_
    · simp only [bodG, nameG, wipeE, tst1, bin2, getV, wp_bind, wp_pure, wp_ite, List.set_cons_zero, List.set_cons_succ, List.getElem?_cons_zero, List.getElem?_cons_succ, it5_wp hm, wp_neI, wp_asB, tup2_wp, wp_subI]
      by_cases e : (!decide (p m = T a m)) = true
      · rw [if_pos e] at hq ⊢
        exact hq
      · rw [if_neg e] at hq ⊢
        exact hq
    · rw [filterMap_if]
      exact hq
  have hsz : ("size" : Str) ≠ "rows" := by decide +kernel
  simp only [seqS, exprS, setS, callE, consA, nilA, arg, methE, getV, wp_bind, wp_pure, wp_ite, List.getElem?_cons_zero, List.getElem?_cons_succ, List.length_cons, List.length_nil, show ((0 : Nat) + 1 = 1) = True from eq_true rfl, show ((0 : Nat) + 1 + 1 = 2) = True from eq_true rfl, if_true, wp_eq (check_ok hp), methZ hz hsz, wp_eq (size_ok hz k ha), List.set_cons_zero, List.set_cons_succ, retS]
  exact g
end
end K01

set_option Elab.async false
set_option linter.all false
set_option maxRecDepth 100000
set_option maxHeartbeats 1000000
namespace K01
open PySem PySem.Spec PyProof.Rows L2 LamX Fd
/-! ### the round, in pieces -/
def rd0 : En → M Fl := (asgS (tupV (consA (lstO nilA) (consA (callE (consA (getV 2) nilA) (arg 1 D_lawPerson)) nilA))) (tupG 2 (consG (nameG 3) (consG (nameG 4) nilG))))
def rd1 : En → M Fl := (forS (rng1 (bin2 addA (cst (.int 1)) (callE (consA (getV 2) (consA (cst (.int 4)) nilA)) (arg 2 D_lawRoll)))) (nameG 5) L_law_b0)
def rd2 : En → M Fl := (asgS (tupV (consA (callE (consA (getV 3) nilA) (makeO 1 (arg 2 D_SizesInit))) (consA (callE (consA (getV 2) nilA) (arg 1 D_lawPerson)) (consA (callE (consA (getV 2) nilA) (arg 1 D_lawPerson)) nilA)))) (tupG 3 (consG (nameG 6) (consG (nameG 7) (consG (nameG 8) nilG)))))
def rd3 : En → M Fl := (ifS (orT (tst1 (bin2 neA (callE (consA (getV 7) (consA (getV 8) nilA)) (arg 2 D_far)) (callE (consA (getV 7) (consA (getV 8) nilA)) (arg 2 D_lawFar)))) (tst1 (bin2 isnotN (callE (consA (getV 7) nilA) (arg 1 D_checkMeasures)) (cst .non)))) (retS (cst (.bl false))) skip)
def rd4 : En → M Fl := (setS 9 (callE (consA (lockQ (locV 3) (genE (enumS (getV 3)) [5, 16, 28] (tupG 2 (consG (nameG 5) (consG (tupG 2 (consG (nameG 16) (consG (nameG 28) nilG))) nilG))) yesT (tupV (consA (callE (consA (getV 7) (consA (getV 28) nilA)) (arg 2 D_lawFar)) (consA (getV 5) nilA))) chkAll finLst)) nilA) (sortedA false)))
def rd5 : En → M Fl := (lockQ (locV 3) (setS 10 (genE (itSeq (getV 3)) [16, 28] (tupG 2 (consG (nameG 16) (consG (nameG 28) nilG))) (tst1 (bin2 eqA (lockQ (locV 1) (genE (itSeq (getV 1)) [11] (nameG 11) (tst1 (bin2 gtI (bin2 itemO (getV 7) (getV 11)) (bin2 itemO (getV 28) (getV 11)))) (cst (.int 1)) chkAll finLst)) (lstV nilA))) (getV 16) chkAll finLst)))
def rd6 : En → M Fl := (ifS (orT (tst1 (bin2 neA (methE 1 "nearest" (getV 6) (consA (getV 7) nilA) (arg 2 D_SizesNearest)) (bin2 addA (cst (.str "s")) (callE (consA (bin2 itemO (bin2 itemO (getV 9) (cst (.int 0))) (cst (.int 1))) nilA) strC)))) (tst1 (bin2 neA (methE 1 "roomy" (getV 6) (consA (getV 7) nilA) (arg 2 D_SizesRoomy)) (ifV (tst1 (bin2 neA (getV 10) (lstV nilA))) (bin2 itemO (getV 10) (cst (.int 0))) (cst .non))))) (retS (cst (.bl false))) skip)
def rd7 : En → M Fl := (asgS (tupV (consA (callE (consA (getV 2) (consA (callE (consA (getV 3) nilA) lenC) nilA)) (arg 2 D_lawRoll)) (consA (callE (consA (getV 2) (consA (callE (consA (getV 3) nilA) lenC) nilA)) (arg 2 D_lawRoll)) (consA (bin2 addA (cst (.int 1)) (callE (consA (getV 2) (consA (cst (.int 9)) nilA)) (arg 2 D_lawRoll))) nilA)))) (tupG 3 (consG (nameG 11) (consG (nameG 12) (consG (nameG 13) nilG)))))
def rd8 : En → M Fl := (parS 14 15 (consA (callE (consA (getV 2) (consA (bin2 addA (getV 13) (cst (.int 1))) nilA)) (arg 2 D_lawRoll)) (consA (newDE false) nilA)))
def rd9 : En → M Fl := (lockQ (locV 1) (forS (itSeq (getV 1)) (nameG 16) L_law_b1))
def rd10 : En → M Fl := (ifS (orT (tst1 (bin2 neA (methE 1 "between" (getV 6) (consA (bin2 addA (cst (.str "s")) (callE (consA (getV 11) nilA) strC)) (consA (bin2 addA (cst (.str "s")) (callE (consA (getV 12) nilA) strC)) (consA (getV 14) (consA (getV 13) nilA)))) (arg 5 D_SizesBetween)) (getV 15))) (tst1 (bin2 neA (methE 1 "size" (getV 6) (consA (bin2 addA (cst (.str "s")) (callE (consA (getV 11) nilA) strC)) nilA) (arg 2 D_SizesSize)) (bin2 itemO (bin2 itemO (getV 3) (getV 11)) (cst (.int 1)))))) (retS (cst (.bl false))) skip)
def rd11 : En → M Fl := (ifS (tst1 (bin2 neA (callE (consA (methE 1 "alterations" (getV 6) (consA (getV 7) (consA (cst (.str "s0")) nilA)) (arg 3 D_SizesAlterations)) nilA) (listC false)) (lockQ (locV 1) (genE (itSeq (getV 1)) [16] (nameG 16) (tst1 (bin2 neA (bin2 itemO (getV 7) (getV 16)) (bin2 itemO (bin2 itemO (bin2 itemO (getV 3) (cst (.int 0))) (cst (.int 1))) (getV 16)))) (tupV (consA (getV 16) (consA (bin2 subI (bin2 itemO (getV 7) (getV 16)) (bin2 itemO (bin2 itemO (bin2 itemO (getV 3) (cst (.int 0))) (cst (.int 1))) (getV 16))) nilA))) chkAll finLst)))) (retS (cst (.bl false))) skip)
def rd12 : En → M Fl := (setS 18 (dictV (consA (genE (rng1 (bin2 addA (cst (.int 1)) (callE (consA (getV 2) (consA (cst (.int 6)) nilA)) (arg 2 D_lawRoll)))) [5] (nameG 5) yesT (tupV (consA (bin2 addA (cst (.str "p")) (callE (consA (getV 5) nilA) strC)) (consA (ifV (tst1 (bin2 gtI (callE (consA (getV 2) (consA (cst (.int 4)) nilA)) (arg 2 D_lawRoll)) (cst (.int 0)))) (callE (consA (getV 2) nilA) (arg 1 D_lawPerson)) (getV 7)) nilA))) chkAll finLst) nilA)))
def rd13 : En → M Fl := (parS 19 20 (consA (bin2 addA (cst (.int 1)) (callE (consA (getV 2) (consA (callE (consA (getV 18) nilA) lenC) nilA)) (arg 2 D_lawRoll))) (consA (lstO nilA) nilA)))
def rd14 : En → M Fl := (forS (itSeq (callE (consA (callE (consA (getV 18) nilA) (sortedA false)) (consA (getV 19) nilA)) (arg 2 (D_lawHeads 8)))) (nameG 21) L_law_b3)
def rd15 : En → M Fl := (ifS (tst1 (bin2 neA (callE (consA (getV 18) (consA (getV 19) nilA)) (arg 2 D_grouped)) (tupV (consA (bin2 itemO (callE (consA (getV 20) nilA) (bestC PySem.W.dataLt)) (cst (.int 0))) (consA (bin2 itemO (callE (consA (getV 20) nilA) (bestC PySem.W.dataLt)) (cst (.int 2))) nilA))))) (retS (cst (.bl false))) skip)
theorem L_law_b4_eq : L_law_b4 = seqS rd0 (seqS rd1 (seqS rd2 (seqS rd3 (seqS rd4 (seqS rd5 (seqS rd6 (seqS rd7 (seqS rd8 (seqS rd9 (seqS rd10 (seqS rd11 (seqS rd12 (seqS rd13 (seqS rd14 rd15)))))))))))))) := rfl
def bz0 : En → M Fl := (exprS (bmE "list" (getV 3) (consA (tupV (consA (bin2 addA (cst (.str "s")) (callE (consA (getV 5) nilA) strC)) (consA (dictV (consA (itemsE (getV 4)) nilA)) nilA))) nilA) appM))
def bz1 : En → M Fl := (setS 4 (dictV (consA (lockQ (locV 1) (genE (itSeq (getV 1)) [16] (nameG 16) yesT (tupV (consA (getV 16) (consA (bin2 addA (bin2 itemO (getV 4) (getV 16)) (callE (consA (getV 2) (consA (cst (.int 80)) nilA)) (arg 2 D_lawRoll))) nilA))) chkAll finLst)) nilA)))
theorem L_law_b0_eq : L_law_b0 = seqS bz0 bz1 := rfl
structure Rv (σ : En) (S : Sto) (ld : Nat) : Prop where
  n : σ.length = 32
  s1 : σ[1]? = some (some (.lst (nm5.map D.str)))
  s2 : σ[2]? = some (some (.ref ld))
  d : diceAt S ld
  lk : ∀ k, ld ≤ k → S.locked k = false
section
variable {S : Sto} {E : Nat → Sto → Prop} {Q : D → Sto → Prop} {σ : En} {ld : Nat}
theorem Rv.lt (h : Rv σ S ld) {i : Nat} (hi : i < 32) : i < σ.length := by rw [h.n]; exact hi
theorem Rv.set (h : Rv σ S ld) {i : Nat} (hi : 2 < i) (v : Option D) : Rv (σ.set i v) S ld :=
  ⟨by rw [List.length_set]; exact h.n, by rw [List.getElem?_set_ne (by omega)]; exact h.s1, by rw [List.getElem?_set_ne (by omega)]; exact h.s2, h.d, h.lk⟩
theorem Rv.ev {ls : List Nat} {S' : Sto} (h : Rv σ S ld) (e : Ev ls S S') (d : diceAt S' ld) : Rv σ S' ld := ⟨h.n, h.s1, h.s2, d, fun k hk => by rw [e.locked]; exact h.lk k hk⟩
theorem Rv.ldn (h : Rv σ S ld) : ld < S.n := by
  obtain ⟨_, a, b, c, e⟩ := h.d
  exact (List.getElem?_eq_some_iff.mp e).1
theorem Rv.fre (h : Rv σ S ld) : Fre S := fun k hk => by
  have l := h.ldn
  rcases Nat.lt_or_ge k ld with z | z
  · omega
  · have := h.lk k z
    unfold Sto.locked at this
    rw [List.contains_eq_mem, decide_eq_false_iff_not] at this
    exact absurd hk this
theorem Rv.roll (h : Rv σ S ld) (a b c : Int) : Rv σ (S.put ld (.lst [.int a, .int b, .int c])) ld := h.ev (Ev.put _ _ _) (h.d.put a b c)
theorem rollE_wp {Q : D → Sto → Prop} {m : Int} (h : Rv σ S ld) (hm : 0 < m) (hm2 : m ≤ 100000000) (k : ∀ r S', 0 ≤ r → r < m → Rv σ S' ld → Ev [ld] S S' → Q (.int r) S') : wp (callE (consA (getV 2) (consA (cst (.int m)) nilA)) (arg 2 D_lawRoll) σ) S Q E := by
  simp only [callE, consA, nilA, arg, getV, cst, h.s2, wp_bind, wp_pure, wp_ite, List.length_cons, List.length_nil, show ((0 : Nat) + 1 + 1 = 2) = True from eq_true rfl, if_true]
  exact roll_wp h.d hm hm2 fun r a b c r0 r1 => k r _ r0 r1 (h.roll a b c) (Ev.put _ _ _)
theorem persE_wp {Q : D → Sto → Prop} (h : Rv σ S ld) (k : ∀ t S', Pers t → Rv σ S' ld → Ev [ld] S S' → Q (tb t) S') : wp (callE (consA (getV 2) nilA) (arg 1 D_lawPerson) σ) S Q E := by
  simp only [callE, consA, nilA, arg, getV, h.s2, wp_bind, wp_pure, wp_ite, List.length_cons, List.length_nil, show ((0 : Nat) + 1 = 1) = True from eq_true rfl, if_true]
  exact person_wp h.d fun t S' hp d' ev => k t S' hp (h.ev ev d') ev
/-! rd0 -/
structure Rw (σ : En) (S : Sto) (ld lr n : Nat) (T : Nat → Tb) : Prop where
  v : Rv σ S ld
  s3 : σ[3]? = some (some (.ref lr))
  lt : ld < lr
  o : S.objs[lr]? = some (.lst (rowsT n T))
theorem Rw.set {lr n : Nat} {T : Nat → Tb} (h : Rw σ S ld lr n T) {i : Nat} (hi : 3 < i) (v : Option D) : Rw (σ.set i v) S ld lr n T := ⟨h.v.set (by omega) v, by rw [List.getElem?_set_ne (by omega)]; exact h.s3, h.lt, h.o⟩
theorem Rw.ev {lr n : Nat} {T : Nat → Tb} {ls : List Nat} {S' : Sto} (h : Rw σ S ld lr n T) (e : Ev ls S S') (hl : lr ∉ ls) (d : diceAt S' ld) : Rw σ S' ld lr n T := ⟨h.v.ev e d, h.s3, h.lt, e.ob _ _ hl h.o⟩
theorem Rw.evd {lr n : Nat} {T : Nat → Tb} {S' : Sto} (h : Rw σ S ld lr n T) (e : Ev [ld] S S') (d : diceAt S' ld) : Rw σ S' ld lr n T := h.ev e (fun z => by have := List.mem_singleton.mp z; have := h.lt; omega) d
theorem Rw.ul {lr n : Nat} {T : Nat → Tb} (h : Rw σ S ld lr n T) : S.locked lr = false := h.v.lk lr (by have := h.lt; omega)
theorem rd0_wp {Q : Fl → Sto → Prop} (h : Rv σ S ld) (k : ∀ σ' S' lr t, Rw σ' S' ld lr 0 (fun _ => t) → σ'[4]? = some (some (tb t)) → Pers t → Q (.nx σ') S') : wp (rd0 σ) S Q E := by
  have f := h.fre
  unfold rd0 asgS
  rw [wp_bind, tup2_wp]
  simp only [lstO, nilA, wp_bind, wp_pure, wp_ite, List.length_nil, show (0 ≤ sizeLine) = True from eq_true (Nat.zero_le _), if_true, newL_wp]
  have g := Gr.push S (.lst [])
  have h1 : Rv σ (S.push (.lst [])) ld := h.ev (ls := []) g.ev (g.dice h.d)
  refine persE_wp h1 fun t S' hp h' ev => ?_
  have ho : S'.objs[S.n]? = some (.lst []) := ev.ob _ _ (fun z => by have := List.mem_singleton.mp z; have := h.ldn; omega) (push_at _ _)
  simp only [tupG, tupD, consG, nilG, nameG, wp_bind, wp_pure, wp_ite, List.length_cons, List.length_nil, if_true]
  refine k _ S' S.n t ⟨((h'.set (i := 3) (by decide) _).set (i := 4) (by decide) _), ?_, h.ldn, ho⟩ ?_ hp
  · rw [List.getElem?_set_ne (by decide), List.getElem?_set_self (h.lt (by decide))]
  · rw [List.getElem?_set_self (by rw [List.length_set]; exact h.lt (by decide))]
/-! rd1 -/
structure Wk (i : Nat) (T : Nat → Tb) (here : Tb) : Prop where
  hb : ∀ m ∈ nm5, 400 ≤ here m ∧ here m < 1100 + 80 * (i : Int)
  tb : ∀ j, j < i → ∀ m ∈ nm5, 400 ≤ T j m ∧ T j m < 1100 + 80 * (i : Int)
  up : ∀ j, j + 1 < i → ∀ m ∈ nm5, T j m ≤ T (j + 1) m
  last : ∀ j, j + 1 = i → ∀ m ∈ nm5, T j m ≤ here m
theorem Wk.next {i : Nat} {T : Nat → Tb} {here here' : Tb} (w : Wk i T here) (h : ∀ m ∈ nm5, here m ≤ here' m ∧ here' m < here m + 80) : Wk (i + 1) (fun j => if j = i then here else T j) here' := by
  refine ⟨fun m hm => ?_, fun j hj m hm => ?_, fun j hj m hm => ?_, fun j hj m hm => ?_⟩
  · have := h m hm
    have := w.hb m hm
    omega
  · show (400 ≤ (if j = i then here else T j) m ∧ (if j = i then here else T j) m < 1100 + 80 * ((i + 1 : Nat) : Int))
    by_cases e : j = i
    · rw [if_pos e]
      have := w.hb m hm
      omega
    · rw [if_neg e]
      have := w.tb j (by omega) m hm
      omega
  · show (if j = i then here else T j) m ≤ (if j + 1 = i then here else T (j + 1)) m
    by_cases e : j + 1 = i
    · rw [if_pos e, if_neg (by omega)]
      exact w.last j e m hm
    · rw [if_neg e, if_neg (by omega)]
      exact w.up j (by omega) m hm
  · show (if j = i then here else T j) m ≤ here' m
    have : j = i := by omega
    rw [if_pos this]
    exact (h m hm).1
theorem rowsT_next (i : Nat) (T : Nat → Tb) (here : Tb) : rowsT i T ++ [.tup [.str (nmOf "s" (i : Int)), tb here]] = rowsT (i + 1) (fun j => if j = i then here else T j) := by
  unfold rowsT
  rw [List.range_succ, List.map_append]
  have h1 : (List.range i).map (rowT T) = (List.range i).map (rowT fun j => if j = i then here else T j) := List.map_congr_left fun j hj => by
    have := List.mem_range.mp hj
    show rowT T j = .tup [.str (nmOf "s" (j : Int)), tb (if j = i then here else T j)]
    rw [if_neg (by omega)]
    rfl
  rw [h1]
  unfold rowT
  simp only [List.map_cons, List.map_nil, if_true]
theorem bz_wp {Q : Fl → Sto → Prop} {lr i : Nat} {T : Nat → Tb} {here : Tb} (h : Rw σ S ld lr i T) (hi : i < 4) (h4 : σ[4]? = some (some (tb here))) (h5 : σ[5]? = some (some (.int (i : Int)))) (w : Wk i T here)
    (k : ∀ σ' S' T' here', Rw σ' S' ld lr (i + 1) T' → σ'[4]? = some (some (tb here')) → Wk (i + 1) T' here' → Q (.nx σ') S') : wp (L_law_b0 σ) S Q E := by
  rw [L_law_b0_eq]
  simp only [seqS, wp_bind]
  unfold bz0 exprS bmE
  have ed : dictV (consA (itemsE (getV 4)) nilA) σ S = .ok (tb here) S := run_of fun Q E hq => dictV1_wp (by
    rw [itemsE_wp (bs := rw5 here) (run_of fun Q E hq => by simp only [getV, h4, wp_pure]; exact hq), dictL5]
    exact hq)
  have es : wp (callE (consA (getV 5) nilA) strC σ) S = fun Q E => Q (.str (toString (i : Int))) S := by
    funext Q E
    rw [call1_wp]
    simp only [getV, h5, wp_pure]
    exact str_wp (by omega) (by omega)
  simp only [wp_bind, getV, h.s3, wp_pure, chkL_wp h.o h.ul, consA, nilA, tup2_wp, bin2, cst, es, addN_wp (show (0 : Int) ≤ (i : Int) by omega) (show (i : Int) < 8 by omega) (show ("s" : Str).length ≤ 10 by decide +kernel), wp_eq ed, app_wp h.o h.ul (show (rowsT i T).length < sizeLine by rw [rowsT_len]; exact Nat.lt_of_lt_of_le hi (by decide))]
  rw [rowsT_next]
  have hw : Rw σ (S.put lr (.lst (rowsT (i + 1) fun j => if j = i then here else T j))) ld lr (i + 1) (fun j => if j = i then here else T j) :=
    ⟨h.v.ev (Ev.put S lr _) ((Ev.put S lr _).dice (fun z => by have := List.mem_singleton.mp z; have := h.lt; omega) h.v.d), h.s3, h.lt, put_at (lt_of_get h.o)⟩
  generalize S.put lr _ = S1 at hw ⊢
  unfold bz1 setS
  rw [wp_bind]
  refine dictV1_wp ?_
  rw [lockL_wp hw.v.s1]
  refine rollTab (ld := ld) (P := fun m j => here m ≤ j ∧ j < here m + 80) (run_of fun Q E hq => by simp only [itSeq, getV, hw.v.s1, wp_bind, wp_pure, itemsL_wp]; exact hq) hw.v.d (fun S' m hm d' ev => ?_) fun t S' d' ev hp => ?_
  · have hv : Rv ((wipeE σ [16]).set 16 (some (.str m))) S' ld := (((hw.v.ev ev d').set (i := 16) (by decide) none).set (i := 16) (by decide) _)
    have k16 : ((wipeE σ [16]).set 16 (some (D.str m)))[16]? = some (some (.str m)) := List.getElem?_set_self (by show 16 < (σ.set 16 none).length; rw [List.length_set]; exact h.v.lt (by decide))
    have k4 : ((wipeE σ [16]).set 16 (some (D.str m)))[4]? = some (some (tb here)) := by
      rw [List.getElem?_set_ne (by decide)]
      show (σ.set 16 none)[4]? = _
      rw [List.getElem?_set_ne (by decide)]
      exact h4
    generalize (wipeE σ [16]).set 16 (some (D.str m)) = τ at hv k16 k4
    simp only [tup2_wp, getV, k16, k4, wp_pure, bin2, wp_bind, it5_wp hm]
    refine rollE_wp hv (by decide) (by decide) fun r S2 r0 r1 hv2 ev2 => ?_
    rw [wp_addI]
    exact ⟨hv2.d, ev2, _, rfl, by omega, by omega⟩
  · rw [dictL5]
    simp only [wp_pure]
    refine k _ S' _ t ((hw.evd ev d').set (by decide) _) ?_ (w.next hp)
    exact List.getElem?_set_self (h.v.lt (by decide))
theorem rd1_wp {Q : Fl → Sto → Prop} {lr : Nat} {t : Tb} (h : Rw σ S ld lr 0 (fun _ => t)) (h4 : σ[4]? = some (some (tb t))) (hp : Pers t) (k : ∀ σ' S' n T, Rw σ' S' ld lr n T → Tok n T → Q (.nx σ') S') : wp (rd1 σ) S Q E := by
  unfold rd1 forS
  rw [wp_bind]
  refine rngR_wp ?_
  simp only [bin2, cst, wp_bind, wp_pure]
  refine rollE_wp h.v (by decide) (by decide) fun r S1 r0 r1 hv1 ev1 => ?_
  rw [wp_addI]
  refine ⟨1 + r, rfl, by omega, by omega, ?_⟩
  have hw1 := h.evd ev1 hv1.d
  refine wp_loopR (fun (i : Nat) => D.int (i : Int)) (1 + r).toNat (fun i σ S => ∃ T here, Rw σ S ld lr i T ∧ σ[4]? = some (some (tb here)) ∧ Wk i T here) (fun i σ S hi h => ?_) (fun σ S h => ?_) ⟨fun _ => t, t, hw1, h4, ⟨fun m hm => by have := hp m hm; simpa using this, fun j hj => absurd hj (by omega), fun j hj => absurd hj (by omega), fun j hj => absurd hj (by omega)⟩⟩
  · obtain ⟨T, here, hw, h4, w⟩ := h
    simp only [nameG, wp_pure]
    refine bz_wp (i := i) (here := here) (hw.set (i := 5) (by decide) _) (by omega) (by rw [List.getElem?_set_ne (by decide)]; exact h4) (List.getElem?_set_self (hw.v.lt (by decide))) w fun σ' S' T' here' hw' h4' w' => ?_
    exact ⟨T', here', hw', h4', w'⟩
  · obtain ⟨T, here, hw, h4, w⟩ := h
    refine k σ S _ T hw ⟨by omega, by omega, fun i hi m hm => ?_, w.up⟩
    have := w.tb i hi m hm
    omega
end
end K01

set_option Elab.async false
set_option linter.all false
set_option maxRecDepth 100000
set_option maxHeartbeats 1000000
namespace K01
open PySem PySem.Spec PyProof.Rows L2 LamX Fd
section
variable {S : Sto} {E : Nat → Sto → Prop} {Q : D → Sto → Prop} {σ : En} {ld lr ls n : Nat} {T : Nat → Tb} {p : Tb}
/-! ### comprehensions while the store grows -/
theorem genE_grow {α : Type} {fit : En → M (List D)} {vs : List Nat} {g : D → En → M En} {t : En → M Bool} {fe : En → M D} {fin : List D → M D} (enc : α → D) (xs : List α) (f : α → D) (hit : fit σ S = .ok (xs.map enc) S)
    (hb : ∀ x ∈ xs, ∀ S', Gr S S' → ∃ S'', bodG vs g t fe σ (enc x) S' = .ok (some (f x)) S'' ∧ Gr S' S'') (hl : xs.length ≤ sizeLine) (k : ∀ S', Gr S S' → wp (fin (xs.map f)) S' Q E) : wp (genE fit vs g t fe chkAll fin σ) S Q E := by
  unfold genE
  rw [wp_bind, wp_eq hit]
  refine wp_genL (fun ys ds S' => Gr S S' ∧ ∃ done todo, xs = done ++ todo ∧ ys = done.map f ∧ ds = todo.map enc) (fun ys d ds S' h => ?_) (fun ys S' h => ?_) _ _ _ ⟨.refl S, [], xs, rfl, rfl, rfl⟩
  · obtain ⟨gr, done, todo, hx, rfl, hd⟩ := h
    match todo, hd, hx with
    | x :: todo, hd, hx =>
      rw [List.map_cons] at hd
      injection hd with h1 h2
      subst h1 h2
      obtain ⟨S'', e, gr2⟩ := hb x (by rw [hx]; exact List.mem_append_right _ List.mem_cons_self) S' gr
      rw [wp_eq e]
      have hc : chkAll (done.map f) (f x) = some none := if_pos (by
        rw [List.length_map]
        have := congrArg List.length hx
        rw [List.length_append, List.length_cons] at this
        omega)
      simp only [hc]
      exact ⟨gr.trans gr2, done ++ [x], todo, by rw [hx, List.append_assoc]; rfl, by rw [List.map_append]; rfl, rfl⟩
  · obtain ⟨gr, done, todo, hx, rfl, hd⟩ := h
    have : todo = [] := List.map_eq_nil_iff.mp hd.symm
    subst this
    rw [List.append_nil] at hx
    subst hx
    exact k S' gr
/-! rd2 -/
structure Rz (σ : En) (S : Sto) (ld lr ls n : Nat) (T : Nat → Tb) (p : Tb) : Prop where
  w : Rw σ S ld lr n T
  s6 : σ[6]? = some (some (.ref ls))
  z : S.objs[ls]? = some (szO n T)
  l1 : ld < ls
  l2 : lr < ls
  s7 : σ[7]? = some (some (tb p))
  hp : Pers p
  k : Tok n T
theorem Rz.set (h : Rz σ S ld lr ls n T p) {i : Nat} (hi : 7 < i) (v : Option D) : Rz (σ.set i v) S ld lr ls n T p :=
  ⟨h.w.set (by omega) v, by rw [List.getElem?_set_ne (by omega)]; exact h.s6, h.z, h.l1, h.l2, by rw [List.getElem?_set_ne (by omega)]; exact h.s7, h.hp, h.k⟩
theorem Rz.set5 (h : Rz σ S ld lr ls n T p) (v : Option D) : Rz (σ.set 5 v) S ld lr ls n T p :=
  ⟨h.w.set (by decide) v, by rw [List.getElem?_set_ne (by decide)]; exact h.s6, h.z, h.l1, h.l2, by rw [List.getElem?_set_ne (by decide)]; exact h.s7, h.hp, h.k⟩
theorem Rz.ev {ks : List Nat} {S' : Sto} (h : Rz σ S ld lr ls n T p) (e : Ev ks S S') (hl : lr ∉ ks) (hs : ls ∉ ks) (d : diceAt S' ld) : Rz σ S' ld lr ls n T p := ⟨h.w.ev e hl d, h.s6, e.ob _ _ hs h.z, h.l1, h.l2, h.s7, h.hp, h.k⟩
theorem Rz.evd {S' : Sto} (h : Rz σ S ld lr ls n T p) (e : Ev [ld] S S') (d : diceAt S' ld) : Rz σ S' ld lr ls n T p :=
  h.ev e (fun z => by have := List.mem_singleton.mp z; have := h.w.lt; omega) (fun z => by have := List.mem_singleton.mp z; have := h.l1; omega) d
theorem Rz.gr {S' : Sto} (h : Rz σ S ld lr ls n T p) (g : Gr S S') : Rz σ S' ld lr ls n T p := h.ev (ks := []) g.ev (by simp) (by simp) (g.dice h.w.v.d)
theorem rd2_wp {Q : Fl → Sto → Prop} (h : Rw σ S ld lr n T) (hk : Tok n T) (k : ∀ σ' S' ls p o, Rz σ' S' ld lr ls n T p → σ'[8]? = some (some (tb o)) → Pers o → Q (.nx σ') S') : wp (rd2 σ) S Q E := by
  unfold rd2 asgS
  rw [wp_bind, tup3_wp, call1_wp]
  simp only [getV, h.s3, wp_pure, wp_eq (make_ok h.v.fre hk h.o h.ul)]
  have g := szS_gr S n T
  have hz := szS_at S n T
  have hls : lr < S.n := lt_of_get h.o
  have h1 : Rw σ (szS S n T) ld lr n T := h.ev (ls := []) g.ev (by simp) (g.dice h.v.d)
  generalize szS S n T = S1 at hz h1
  refine persE_wp h1.v fun p S2 hp hv2 ev2 => ?_
  refine persE_wp hv2 fun o S3 ho hv3 ev3 => ?_
  have ev := ev2.trans ev3
  simp only [tupG, tupD, consG, nilG, nameG, wp_bind, wp_pure, wp_ite, List.length_cons, List.length_nil, if_true]
  have h3 := (((h1.evd ev hv3.d).set (i := 6) (by decide) (some (.ref S.n))).set (i := 7) (by decide) (some (tb p))).set (i := 8) (by decide) (some (tb o))
  have hl := h.lt
  refine k _ S3 S.n p o ⟨h3, ?_, ?_, by omega, hls, ?_, hp, hk⟩ ?_ ho
  · rw [List.getElem?_set_ne (by decide), List.getElem?_set_ne (by decide), List.getElem?_set_self (h.v.lt (by decide))]
  · exact ev.ob _ _ (fun z => by have := List.mem_singleton.mp z; omega) hz
  · rw [List.getElem?_set_ne (by decide), List.getElem?_set_self (by rw [List.length_set]; exact h.v.lt (by decide))]
  · rw [List.getElem?_set_self (by rw [List.length_set, List.length_set]; exact h.v.lt (by decide))]
/-! rd3 -/
theorem rd3_wp {Q : Fl → Sto → Prop} {o : Tb} (h : Rz σ S ld lr ls n T p) (h8 : σ[8]? = some (some (tb o))) (ho : Pers o) (k : ∀ S', Rz σ S' ld lr ls n T p → Q (.nx σ) S') : wp (rd3 σ) S Q E := by
  have e1 := far_ok (S := S) h.hp.ok ho.ok
  have e2 := lawFar_ok h.hp.ok ho.ok h.w.v.fre
  have g := Gr.push S (.dct false (kv5 wt5))
  have e3 : ∀ {S : Sto} {Q : D → Sto → Prop} {E : Nat → Sto → Prop}, wp (isnotN .non .non) S Q E = Q (.bl false) S := fun {S Q E} => wp_eq rfl
  unfold rd3
  simp only [ifS, orT, tst1, bin2, callE, consA, nilA, arg, getV, cst, h.s7, h8, wp_bind, wp_pure, wp_ite, List.length_cons, List.length_nil, show ((0 : Nat) + 1 = 1) = True from eq_true rfl, show ((0 : Nat) + 1 + 1 = 2) = True from eq_true rfl, if_true, wp_eq e1, wp_eq e2, wp_neI, decide_true, Bool.not_true, wp_asB, Bool.false_eq_true, if_false, wp_eq (check_ok h.hp.ok), e3, skip]
  exact k _ (h.gr g)
/-! rd4: the sizes ranked -/
theorem inLock {α : Type} {Q : α → Sto → Prop} {f : En → M α} {j : Nat} {ds : List D} (hj : σ[j]? = some (some (.ref lr))) (ho : S.objs[lr]? = some (.lst ds)) (hl : S.locked lr = false)
    (h : ∀ S1 : Sto, S1.objs = S.objs → S1.lck = lr :: S.lck → S1.locked lr = true → wp (f σ) S1 (fun a S' => S'.lck = lr :: S.lck ∧ Q a { S' with lck := S.lck }) fun _ _ => False) : wp (lockQ (locV j) f σ) S Q E := by
  refine lockQ_wp (l := lr) (o := .lst ds) (by unfold locV; rw [hj]; show locD S (.ref lr) = _; unfold locD; simp only [ho]) hl ho rfl ?_
  refine h { S with lck := lr :: S.lck } rfl rfl ?_
  show (lr :: S.lck).contains lr = true
  rw [List.contains_eq_mem]
  exact decide_eq_true List.mem_cons_self
theorem Gr.out {S S1 S' : Sto} (ho : S1.objs = S.objs) (g : Gr S1 S') : Gr S { S' with lck := S.lck } := by
  obtain ⟨r, hr⟩ := g.ob
  exact ⟨rfl, r, by rw [← ho]; exact hr⟩
theorem rd4_wp {Q : Fl → Sto → Prop} (h : Rz σ S ld lr ls n T p) (k : ∀ S', Rz (σ.set 9 (some (.lst (srt enc2 py2 ((List.range n).map (keyN p T)))))) S' ld lr ls n T p → Q (.nx (σ.set 9 (some (.lst (srt enc2 py2 ((List.range n).map (keyN p T))))))) S') : wp (rd4 σ) S Q E := by
  unfold rd4 setS
  rw [wp_bind, call1_wp]
  refine inLock h.w.s3 h.w.o h.w.ul fun S1 hS1 hlk hl1 => ?_
  have ho1 : S1.objs[lr]? = some (.lst (rowsT n T)) := by rw [hS1]; exact h.w.o
  have f1 : Fre S1 := fun q hq => by
    rw [hlk] at hq
    have hn : S1.n = S.n := by show S1.objs.length = S.objs.length; rw [hS1]
    rw [hn]
    rcases List.mem_cons.mp hq with rfl | hq
    · exact lt_of_get h.w.o
    · exact h.w.v.fre q hq
  have hit : enumS (getV 3) σ S1 = .ok ((List.range n).map fun (i : Nat) => .tup [.int (i : Int), rowT T i]) S1 := run_of fun Q E hq => by
    simp only [enumS, getV, h.w.s3, wp_bind, wp_pure]
    have e : enumC (.ref lr) S1 = .ok ((List.range n).map fun (i : Nat) => .tup [.int (i : Int), rowT T i]) S1 := by
      unfold enumC seqW
      simp only [hl1, ho1, if_true]
      unfold rowsT
      rw [enumD_range]
    rw [wp_eq e]
    exact hq
  refine genE_grow (fun (i : Nat) => D.tup [.int (i : Int), rowT T i]) (List.range n) (fun i => enc2 (keyN p T i)) hit (fun i hi S' gr => ?_) (by rw [List.length_range]; exact Nat.le_trans h.k.n4 (by decide)) fun S' gr => ?_
  · refine ⟨_, run_of (S' := S'.push (.dct false (kv5 wt5))) fun Q E hq => ?_, Gr.push _ _⟩
    have hi := List.mem_range.mp hi
    obtain ⟨τ, hτ⟩ : ∃ τ, τ = wipeE σ [5, 16, 28] := ⟨_, rfl⟩
    have l5 : τ.length = 32 := by
      rw [hτ]
      show (((σ.set 28 none).set 16 none).set 5 none).length = 32
      rw [List.length_set, List.length_set, List.length_set]
      exact h.w.v.n
    have t7 : τ[7]? = some (some (tb p)) := by
      rw [hτ]
      show (((σ.set 28 none).set 16 none).set 5 none)[7]? = _
      rw [List.getElem?_set_ne (by decide), List.getElem?_set_ne (by decide), List.getElem?_set_ne (by decide)]
      exact h.s7
    simp only [bodG]
    rw [← hτ]
    simp only [rowT, tupG, tupD, consG, nilG, nameG, yesT, wp_bind, wp_pure, wp_ite, List.length_cons, List.length_nil, if_true]
    obtain ⟨ω, hω⟩ : ∃ ω, ω = ((τ.set 5 (some (D.int (i : Int)))).set 16 (some (D.str (nmOf "s" (i : Int))))).set 28 (some (tb (T i))) := ⟨_, rfl⟩
    rw [← hω]
    have w7 : ω[7]? = some (some (tb p)) := by rw [hω, List.getElem?_set_ne (by decide), List.getElem?_set_ne (by decide), List.getElem?_set_ne (by decide)]; exact t7
    have w28 : ω[28]? = some (some (tb (T i))) := by rw [hω, List.getElem?_set_self (by rw [List.length_set, List.length_set, l5]; decide)]
    have w5 : ω[5]? = some (some (.int (i : Int))) := by rw [hω, List.getElem?_set_ne (by decide), List.getElem?_set_ne (by decide), List.getElem?_set_self (by rw [l5]; decide)]
    simp only [tup2_wp, callE, consA, nilA, arg, getV, w7, w28, w5, wp_bind, wp_pure, wp_ite, List.length_cons, List.length_nil, show ((0 : Nat) + 1 + 1 = 2) = True from eq_true rfl, if_true, wp_eq (lawFar_ok h.hp.ok (h.k.ok i hi) (f1.gr gr))]
    exact hq
  · refine ⟨by rw [gr.lk]; exact hlk, ?_⟩
    have e : (List.range n).map (fun i => enc2 (keyN p T i)) = ((List.range n).map (keyN p T)).map enc2 := by rw [List.map_map]; rfl
    have g2 := gr.out hS1
    generalize ({ S' with lck := S.lck } : Sto) = S2 at g2
    rw [e, wp_eq (sortedX_ok srt2 _)]
    simp only [wp_pure]
    exact k S2 ((h.gr g2).set (by decide) _)
end
end K01

set_option Elab.async false
set_option linter.all false
set_option maxRecDepth 100000
set_option maxHeartbeats 1000000
namespace K01
open PySem PySem.Spec PyProof.Rows L2 LamX Fd
section
variable {S : Sto} {E : Nat → Sto → Prop} {Q : D → Sto → Prop} {σ : En} {ld lr ls n : Nat} {T : Nat → Tb} {p : Tb}
/-! rd5: the roomy ones -/
def roomL (p : Tb) (T : Nat → Tb) (n : Nat) : List Str := ((List.range n).filter (fits p T)).map fun i => nmOf "s" ((i : Nat) : Int)
theorem ones_ok {i : Nat} (h1 : σ[1]? = some (some (.lst (nm5.map D.str)))) (h7 : σ[7]? = some (some (tb p))) (h28 : σ[28]? = some (some (tb (T i)))) (hl : 11 < σ.length) : ∃ ds : List D, lockQ (locV 1) (genE (itSeq (getV 1)) [11] (nameG 11) (tst1 (bin2 gtI (bin2 itemO (getV 7) (getV 11)) (bin2 itemO (getV 28) (getV 11)))) (cst (.int 1)) chkAll finLst) σ S = .ok (.lst ds) S ∧ eqA (.lst ds) (.lst []) S = .ok (.bl (fits p T i)) S := by
  refine ⟨((nm5.filter fun m => decide (T i m < p m)).map fun _ => (1 : Int)).map D.int, ?_, ?_⟩
  · rw [lockQ_lst h1]
    rw [genE_ok D.str nm5 (fun m => if decide (T i m < p m) = true then some (D.int 1) else none) (run_of fun Q E hq => by simp only [itSeq, getV, h1, wp_bind, wp_pure, itemsL_wp]; exact hq) (fun m hm => run_of fun Q E hq => ?_) (by decide), filterMap_if, List.map_map]
    · rfl
    · have l11 : 11 < (σ.set 11 none).length := by rw [List.length_set]; exact hl
      have k7 : ((σ.set 11 none).set 11 (some (D.str m)))[7]? = some (some (tb p)) := by rw [List.getElem?_set_ne (by decide), List.getElem?_set_ne (by decide)]; exact h7
      have k28 : ((σ.set 11 none).set 11 (some (D.str m)))[28]? = some (some (tb (T i))) := by rw [List.getElem?_set_ne (by decide), List.getElem?_set_ne (by decide)]; exact h28
      simp only [bodG, nameG, wipeE, tst1, bin2, getV, cst, wp_bind, wp_pure, wp_ite, k7, k28, List.getElem?_set_self l11, it5_wp hm, wp_gtI, wp_asB]
      by_cases e : decide (T i m < p m) = true
      · rw [if_pos e] at hq ⊢
        exact hq
      · rw [if_neg e] at hq ⊢
        exact hq
  · have hz := mapM_ints S 10 ((nm5.filter fun m => decide (T i m < p m)).map fun _ => (1 : Int))
    refine (run_of fun Q E hq => by rw [eqNil_wp hz]; exact hq).trans ?_
    have e : (((nm5.filter fun m => decide (T i m < p m)).map fun _ => (1 : Int)).map D.int).isEmpty = fits p T i := by
      rw [List.isEmpty_map, List.isEmpty_map]
      unfold fits
      rw [Bool.eq_iff_iff, List.isEmpty_iff, List.filter_eq_nil_iff, List.all_eq_true]
      constructor
      · intro h m hm
        have := h m hm
        simp only [decide_eq_true_eq] at this ⊢
        omega
      · intro h m hm
        have := h m hm
        simp only [decide_eq_true_eq] at this ⊢
        omega
    rw [e]
theorem rd5_wp {Q : Fl → Sto → Prop} (h : Rz σ S ld lr ls n T p) (k : Q (.nx (σ.set 10 (some (.lst ((roomL p T n).map D.str))))) S) : wp (rd5 σ) S Q E := by
  unfold rd5
  refine inLock h.w.s3 h.w.o h.w.ul fun S1 hS1 hlk hl1 => ?_
  have ho1 : S1.objs[lr]? = some (.lst (rowsT n T)) := by rw [hS1]; exact h.w.o
  have g : genE (itSeq (getV 3)) [16, 28] (tupG 2 (consG (nameG 16) (consG (nameG 28) nilG))) (tst1 (bin2 eqA (lockQ (locV 1) (genE (itSeq (getV 1)) [11] (nameG 11) (tst1 (bin2 gtI (bin2 itemO (getV 7) (getV 11)) (bin2 itemO (getV 28) (getV 11)))) (cst (.int 1)) chkAll finLst)) (lstV nilA))) (getV 16) chkAll finLst σ S1 = .ok (.lst ((roomL p T n).map D.str)) S1 := by
    rw [genE_ok (rowT T) (List.range n) (fun i => if fits p T i = true then some (D.str (nmOf "s" ((i : Nat) : Int))) else none) (run_of fun Q E hq => by
      simp only [itSeq, getV, h.w.s3, wp_bind, wp_pure, itRef_wp ho1 hl1]
      exact hq) (fun i hi => run_of fun Q E hq => ?_) (by rw [List.length_range]; exact Nat.le_trans h.k.n4 (by decide)), filterMap_if]
    · unfold roomL
      rw [List.map_map]
      rfl
    · obtain ⟨ω, hω⟩ : ∃ ω, ω = (((wipeE σ [16, 28]).set 16 (some (D.str (nmOf "s" (i : Int))))).set 28 (some (tb (T i)))) := ⟨_, rfl⟩
      have wl : ω.length = 32 := by
        rw [hω]
        show (((((σ.set 28 none).set 16 none).set 16 _).set 28 _)).length = 32
        simp only [List.length_set]
        exact h.w.v.n
      have w1 : ω[1]? = some (some (.lst (nm5.map D.str))) := by
        rw [hω]
        show (((((σ.set 28 none).set 16 none).set 16 _).set 28 _))[1]? = _
        rw [List.getElem?_set_ne (by decide), List.getElem?_set_ne (by decide), List.getElem?_set_ne (by decide), List.getElem?_set_ne (by decide)]
        exact h.w.v.s1
      have w7 : ω[7]? = some (some (tb p)) := by
        rw [hω]
        show (((((σ.set 28 none).set 16 none).set 16 _).set 28 _))[7]? = _
        rw [List.getElem?_set_ne (by decide), List.getElem?_set_ne (by decide), List.getElem?_set_ne (by decide), List.getElem?_set_ne (by decide)]
        exact h.s7
      have w16 : ω[16]? = some (some (.str (nmOf "s" (i : Int)))) := by
        rw [hω, List.getElem?_set_ne (by decide), List.getElem?_set_self (by show 16 < ((σ.set 28 none).set 16 none).length; rw [List.length_set, List.length_set, h.w.v.n]; decide)]
      have w28 : ω[28]? = some (some (tb (T i))) := by
        rw [hω, List.getElem?_set_self (by show 28 < (((σ.set 28 none).set 16 none).set 16 _).length; rw [List.length_set, List.length_set, List.length_set, h.w.v.n]; decide)]
      obtain ⟨ds, e1, e2⟩ := ones_ok (S := S1) w1 w7 w28 (by rw [wl]; decide)
      simp only [bodG, rowT, tupG, tupD, consG, nilG, nameG, wp_bind, wp_pure, wp_ite, List.length_cons, List.length_nil, if_true]
      rw [← hω]
      simp only [tst1, bin2, wp_bind, wp_eq e1, lst0_wp, wp_eq e2, wp_asB, getV, w16, wp_pure]
      by_cases e : fits p T i = true
      · rw [if_pos e] at hq ⊢
        exact hq
      · rw [if_neg e] at hq ⊢
        exact hq
  simp only [setS, wp_bind, wp_eq g, wp_pure]
  refine ⟨hlk, ?_⟩
  have : ({ S1 with lck := S.lck } : Sto) = S := by
    show (⟨S1.objs, S.lck⟩ : Sto) = S
    rw [hS1]
  rw [this]
  exact k
/-! rd6: the nearest, the roomy -/
theorem neStr0 {ns : List Str} : neA (.lst (ns.map D.str)) (.lst []) S = .ok (.bl (!ns.isEmpty)) S := run_of fun Q E hq => by rw [neStrs_wp]; exact hq
theorem rd6_wp {Q : Fl → Sto → Prop} (h : Rz σ S ld lr ls n T p) (h9 : σ[9]? = some (some (.lst (srt enc2 py2 ((List.range n).map (keyN p T)))))) (h10 : σ[10]? = some (some (.lst ((roomL p T n).map D.str)))) (k : Q (.nx σ) S) : wp (rd6 σ) S Q E := by
  have n1 := h.k.n1
  have n4 := h.k.n4
  obtain ⟨j, hj, hle, e1⟩ := nearest_ok h.z h.k h.hp.ok
  obtain ⟨b, r, hs, hb⟩ := srt_head (enc := enc2) (py := py2) (ks := (List.range n).map (keyN p T)) (fun z => by
    have := congrArg List.length z
    rw [List.length_map, List.length_range] at this
    simp only [List.length_nil] at this
    omega)
  have hbj : b = keyN p T j := LeastP.uniq (fun a _ b _ => tot2 a b) hb hle fun x => Iff.rfl
  subst hbj
  rw [hs] at h9
  have e2 := roomy_ok h.z h.k h.hp.ok
  have c1 : ("nearest" : Str) ≠ "rows" := by decide +kernel
  have c2 : ("roomy" : Str) ≠ "rows" := by decide +kernel
  have i1 : ∀ {Q : D → Sto → Prop} {E : Nat → Sto → Prop}, wp (itemO (enc2 (keyN p T j)) (.int 1)) S Q E = Q (.int (j : Int)) S := fun {Q E} => ix1_wp _ _
  have hroom : ∀ {Q : D → Sto → Prop} {E : Nat → Sto → Prop}, wp (ifV (tst1 (bin2 neA (getV 10) (lstV nilA))) (bin2 itemO (getV 10) (cst (.int 0))) (cst .non) σ) S Q E = Q (roomD p T n) S := by
    intro Q E
    refine wp_eq (run_of fun Q E hq => ?_)
    simp only [ifV, tst1, bin2, getV, h10, cst, lst0_wp, wp_eq neStr0, wp_asB, wp_bind, wp_pure, wp_ite]
    have hd : roomD p T n = match (roomL p T n) with
      | [] => .non
      | s :: _ => .str s := by
      unfold roomD roomL
      rw [← List.head?_filter]
      cases (List.range n).filter (fits p T) with
      | nil => rfl
      | cons a r => rfl
    rw [hd] at hq
    cases hr : roomL p T n with
    | nil => rw [hr] at hq; exact hq
    | cons a r =>
      rw [hr] at hq
      simp only [List.map_cons, List.isEmpty_cons, Bool.not_false, if_true, ixL0_wp]
      exact hq
  have hne : ∀ {Q : D → Sto → Prop} {E : Nat → Sto → Prop}, wp (neA (roomD p T n) (roomD p T n)) S Q E = Q (.bl false) S := by
    intro Q E
    refine wp_eq ?_
    unfold roomD
    cases (List.range n).find? (fits p T) with
    | none => exact neSame_ok (p := .none) rfl rfl (PySem.SeqAt.eqv_refl_plain _ rfl)
    | some i => exact neSame_ok (p := .str _) rfl rfl (PySem.SeqAt.eqv_refl_plain _ rfl)
  unfold rd6
  simp only [ifS, orT, tst1, bin2, methE, callE, consA, nilA, arg, cst, wp_bind, wp_pure, wp_ite, List.length_cons, List.length_nil, show ((0 : Nat) + 1 + 1 = 2) = True from eq_true rfl, if_true, wp_asB]
  rw [show getV 6 σ = M.pure (.ref ls) from by unfold getV; rw [h.s6], show getV 7 σ = M.pure (tb p) from by unfold getV; rw [h.s7], show getV 9 σ = M.pure (.lst (enc2 (keyN p T j) :: r)) from by unfold getV; rw [h9]]
  simp only [wp_pure, methZ h.z c1, methZ h.z c2, wp_eq e1, ixL0_wp, i1, str_wp (show (0 : Int) ≤ (j : Int) by omega) (show (j : Int) < 1000 by omega), addN_wp (show (0 : Int) ≤ (j : Int) by omega) (show (j : Int) < 8 by omega) (show ("s" : Str).length ≤ 10 by decide +kernel), neS_wp, decide_true, Bool.not_true, Bool.false_eq_true, if_false, wp_eq e2, hroom, hne, wp_asB, skip]
  exact k
end
end K01

set_option Elab.async false
set_option linter.all false
set_option maxRecDepth 100000
set_option maxHeartbeats 1000000
namespace K01
open PySem PySem.Spec PyProof.Rows L2 LamX Fd
/-! ### general: items by index -/
theorem atI_nat {α : Type} {xs : List α} {k : Nat} {x : α} (h : xs[k]? = some x) : atI xs (k : Int) = some x := by
  have hk := lt_of_get h
  have h1 : ixN xs.length (k : Int) = some k := by
    unfold ixN
    first
      | (rw [if_pos (by omega)]; simp; done)
      | (simp; omega)
  unfold atI
  rw [h1]
  exact h
section
variable {S : Sto} {E : Nat → Sto → Prop} {Q : D → Sto → Prop} {σ : En} {ld lr ls n : Nat} {T : Nat → Tb} {p : Tb}
theorem ixL_ok {ds : List D} {k : Nat} {d : D} (h : ds[k]? = some d) : itemO (.lst ds) (.int (k : Int)) S = .ok d S := by
  show (match atI ds (k : Int) with
    | some d => Fd.R.ok d S
    | none => .stk) = _
  rw [atI_nat h]
theorem ixR_ok {ds : List D} {k l : Nat} {d : D} (ho : S.objs[l]? = some (.lst ds)) (h : ds[k]? = some d) : itemO (.ref l) (.int (k : Int)) S = .ok d S := by
  have e : dctD S (.ref l) = none := by unfold dctD; simp only [ho]
  have e2 : seqL S (.ref l) = some ds := by unfold seqL; simp only [ho]
  unfold itemO alt2
  simp only [e, Option.isSome_none, Bool.false_eq_true, if_false]
  unfold ixO
  simp only [e2]
  show (match (some ds).bind fun ds => atI ds (k : Int) with
    | some d => Fd.R.ok d S
    | none => .stk) = _
  show (match atI ds (k : Int) with
    | some d => Fd.R.ok d S
    | none => .stk) = _
  rw [atI_nat h]
theorem lenR_ok {ds : List D} {l : Nat} (ho : S.objs[l]? = some (.lst ds)) : lenC [.ref l] S = .ok (.int ds.length) S := by
  have e2 : itA S (.ref l) = some ds := by unfold itA seqL tupD; simp only [ho]; rfl
  unfold lenC
  simp only [e2]
theorem neDctRR_ok {l l' : Nat} {bs : List (Str × Int)} (hn : (bs.map (·.1)).Nodup) (h : S.objs[l]? = some (.dct false (bs.map kvOf))) (h' : S.objs[l']? = some (.dct false (bs.map kvOf))) : neA (.ref l) (.ref l') S = .ok (.bl false) S := by
  unfold neA alt2
  simp only [dct_at h, Option.isSome_some, if_true]
  unfold neDO
  have e : eqDct S (.ref l) (.ref l') = some true := by
    unfold eqDct
    simp only [dct_at h, dct_at h', if_true, eqK_self hn bs fun _ h => h]
  rw [e]
  rfl
/-! rd7 -/
theorem rd7_wp {Q : Fl → Sto → Prop} (h : Rz σ S ld lr ls n T p) (k : ∀ σ' S' (a b : Nat) (whole : Int), Rz σ' S' ld lr ls n T p → a < n → b < n → 1 ≤ whole → whole ≤ 9 → σ'[11]? = some (some (.int (a : Int))) → σ'[12]? = some (some (.int (b : Int))) → σ'[13]? = some (some (.int whole)) → Q (.nx σ') S') : wp (rd7 σ) S Q E := by
  have n1 := h.k.n1
  have n4 := h.k.n4
  have rl : ∀ (S : Sto), Rz σ S ld lr ls n T p → ∀ {Q : D → Sto → Prop} {E : Nat → Sto → Prop}, (∀ (a : Nat) S', a < n → Rz σ S' ld lr ls n T p → Ev [ld] S S' → Q (.int (a : Int)) S') → wp (callE (consA (getV 2) (consA (callE (consA (getV 3) nilA) lenC) nilA)) (arg 2 D_lawRoll) σ) S Q E := fun S h Q E hq => by
    simp only [callE, consA, nilA, arg, getV, h.w.v.s2, h.w.s3, wp_bind, wp_pure, wp_ite, wp_eq (lenR_ok h.w.o), rowsT_len, List.length_cons, List.length_nil, show ((0 : Nat) + 1 + 1 = 2) = True from eq_true rfl, if_true]
    refine roll_wp h.w.v.d (by omega) (by omega) fun r a b c r0 r1 => ?_
    have ev := Ev.put S ld (.lst [.int a, .int b, .int c])
    have := hq r.toNat _ (by omega) (h.evd ev (h.w.v.d.put a b c)) ev
    rw [Int.toNat_of_nonneg r0] at this
    exact this
  unfold rd7 asgS
  rw [wp_bind, tup3_wp]
  refine rl S h fun a S1 ha h1 _ => rl S1 h1 fun b S2 hb h2 _ => ?_
  simp only [bin2, cst, wp_bind, wp_pure]
  refine rollE_wp h2.w.v (by decide) (by decide) fun r S3 r0 r1 hv3 ev3 => ?_
  have h3 := h2.evd ev3 hv3.d
  simp only [wp_addI, tupG, tupD, consG, nilG, nameG, wp_bind, wp_pure, wp_ite, List.length_cons, List.length_nil, if_true]
  refine k _ S3 a b (1 + r) (((h3.set (i := 11) (by decide) _).set (i := 12) (by decide) _).set (i := 13) (by decide) _) ha hb (by omega) (by omega) ?_ ?_ ?_
  · rw [List.getElem?_set_ne (by decide), List.getElem?_set_ne (by decide), List.getElem?_set_self (h.w.v.lt (by decide))]
  · rw [List.getElem?_set_ne (by decide), List.getElem?_set_self (by rw [List.length_set]; exact h.w.v.lt (by decide))]
  · rw [List.getElem?_set_self (by rw [List.length_set, List.length_set]; exact h.w.v.lt (by decide))]
/-! rd8 -/
structure Rb (σ : En) (S : Sto) (ld lr ls n : Nat) (T : Nat → Tb) (p : Tb) (a b : Nat) (part whole : Int) (lu : Nat) (kvs : List (DK × D)) : Prop where
  r : Rz σ S ld lr ls n T p
  ha : a < n
  hb : b < n
  w1 : 1 ≤ whole
  w9 : whole ≤ 9
  p0 : 0 ≤ part
  p1 : part ≤ whole
  s11 : σ[11]? = some (some (.int (a : Int)))
  s12 : σ[12]? = some (some (.int (b : Int)))
  s13 : σ[13]? = some (some (.int whole))
  s14 : σ[14]? = some (some (.int part))
  s15 : σ[15]? = some (some (.ref lu))
  o : S.objs[lu]? = some (.dct false kvs)
  lt : ls < lu
theorem rd8_wp {Q : Fl → Sto → Prop} {a b : Nat} {whole : Int} (h : Rz σ S ld lr ls n T p) (ha : a < n) (hb : b < n) (w1 : 1 ≤ whole) (w9 : whole ≤ 9) (s11 : σ[11]? = some (some (.int (a : Int)))) (s12 : σ[12]? = some (some (.int (b : Int)))) (s13 : σ[13]? = some (some (.int whole)))
    (k : ∀ σ' S' part lu, Rb σ' S' ld lr ls n T p a b part whole lu [] → Q (.nx σ') S') : wp (rd8 σ) S Q E := by
  unfold rd8 parS
  simp only [callE, consA, nilA, arg, bin2, cst, getV, h.w.v.s2, s13, wp_bind, wp_pure, wp_ite, wp_addI, List.length_cons, List.length_nil, show ((0 : Nat) + 1 + 1 = 2) = True from eq_true rfl, if_true]
  refine roll_wp h.w.v.d (by omega) (by omega) fun r x y z r0 r1 => ?_
  have ev := Ev.put S ld (.lst [.int x, .int y, .int z])
  have h1 := h.evd ev (h.w.v.d.put x y z)
  generalize S.put ld _ = S1 at h1
  simp only [newDE, newD_wp]
  have g := Gr.push S1 (.dct false [])
  have hls : ls < S1.n := lt_of_get h1.z
  refine k _ _ r S1.n ⟨((h1.gr g).set (i := 14) (by decide) _).set (i := 15) (by decide) _, ha, hb, w1, w9, r0, by omega, ?_, ?_, ?_, ?_, ?_, push_at _ _, hls⟩
  · rw [List.getElem?_set_ne (by decide), List.getElem?_set_ne (by decide)]; exact s11
  · rw [List.getElem?_set_ne (by decide), List.getElem?_set_ne (by decide)]; exact s12
  · rw [List.getElem?_set_ne (by decide), List.getElem?_set_ne (by decide)]; exact s13
  · rw [List.getElem?_set_ne (by decide), List.getElem?_set_self (h.w.v.lt (by decide))]
  · rw [List.getElem?_set_self (by rw [List.length_set]; exact h.w.v.lt (by decide))]
/-! rd9: the numbers between, by the law -/
def by0 : En → M Fl := (setS 17 (bin2 addA (bin2 mulA (bin2 itemO (bin2 itemO (bin2 itemO (getV 3) (getV 11)) (cst (.int 1))) (getV 16)) (bin2 subI (getV 13) (getV 14))) (bin2 mulA (bin2 itemO (bin2 itemO (bin2 itemO (getV 3) (getV 12)) (cst (.int 1))) (getV 16)) (getV 14))))
def by1 : En → M Fl := (asgS (bin2 addA (bin2 fdvI (getV 17) (getV 13)) (callE (consA (bin2 geI (bin2 mulA (cst (.int 2)) (bin2 modI (getV 17) (getV 13))) (getV 13)) nilA) intC)) (subG (getV 15) (getV 16)))
theorem L_law_b1_eq : L_law_b1 = seqS by0 by1 := rfl
theorem Rb.set {a b lu : Nat} {part whole : Int} {kvs : List (DK × D)} (h : Rb σ S ld lr ls n T p a b part whole lu kvs) {i : Nat} (hi : 15 < i) (v : Option D) : Rb (σ.set i v) S ld lr ls n T p a b part whole lu kvs :=
  ⟨h.r.set (by omega) v, h.ha, h.hb, h.w1, h.w9, h.p0, h.p1, by rw [List.getElem?_set_ne (by omega)]; exact h.s11, by rw [List.getElem?_set_ne (by omega)]; exact h.s12, by rw [List.getElem?_set_ne (by omega)]; exact h.s13, by rw [List.getElem?_set_ne (by omega)]; exact h.s14, by rw [List.getElem?_set_ne (by omega)]; exact h.s15, h.o, h.lt⟩
theorem Rb.putU {a b lu : Nat} {part whole : Int} {kvs : List (DK × D)} (h : Rb σ S ld lr ls n T p a b part whole lu kvs) (kvs' : List (DK × D)) : Rb σ (S.put lu (.dct false kvs')) ld lr ls n T p a b part whole lu kvs' := by
  have h1 := h.lt
  have h2 := h.r.l1
  have h3 := h.r.l2
  have ev := Ev.put S lu (.dct false kvs')
  exact ⟨h.r.ev ev (fun z => by have := List.mem_singleton.mp z; omega) (fun z => by have := List.mem_singleton.mp z; omega) (ev.dice (fun z => by have := List.mem_singleton.mp z; omega) h.r.w.v.d), h.ha, h.hb, h.w1, h.w9, h.p0, h.p1, h.s11, h.s12, h.s13, h.s14, h.s15, put_at (lt_of_get h.o), h.lt⟩
theorem rowIt {i : Nat} {j : Nat} (h : Rz σ S ld lr ls n T p) (hi : i < n) (hj : σ[j]? = some (some (.int (i : Int)))) : (bin2 itemO (bin2 itemO (getV 3) (getV j)) (cst (.int 1))) σ S = .ok (tb (T i)) S := run_of fun Q E hq => by
  simp only [bin2, getV, cst, h.w.s3, hj, wp_bind, wp_pure, wp_eq (ixR_ok h.w.o (rowsT_at hi))]
  unfold rowT
  rw [ix1_wp]
  exact hq
theorem by_wp {Q : Fl → Sto → Prop} {a b lu : Nat} {part whole : Int} {done : List Str} {m : Str} (h : Rb σ S ld lr ls n T p a b part whole lu ((done.map fun m => (m, betI T a b part whole m)).map kvOf)) (hm : m ∈ nm5) (hd : m ∉ done) (hz : done.length ≤ 5) (h16 : σ[16]? = some (some (.str m)))
    (k : ∀ σ' S', Rb σ' S' ld lr ls n T p a b part whole lu (((done ++ [m]).map fun m => (m, betI T a b part whole m)).map kvOf) → Q (.nx σ') S') : wp (L_law_b1 σ) S Q E := by
  have w1 := h.w1
  have w9 := h.w9
  have p0 := h.p0
  have p1 := h.p1
  have q1 : 0 ≤ whole - part := by omega
  have q2 : whole - part ≤ 9 := by omega
  have q3 : part ≤ 9 := by omega
  have q4 : 0 < whole := by omega
  have q5 : whole < 1073741824 := by omega
  have m2 : ∀ {x : Int} {S : Sto} {Q : D → Sto → Prop} {E : Nat → Sto → Prop}, wp (mulA (.int 2) (.int x)) S Q E = Q (.int (2 * x)) S := fun {x S Q E} => wp_mulI (.inl (by decide))
  have r1 := rowIt h.r h.ha h.s11
  have r2 := rowIt h.r h.hb h.s12
  rw [L_law_b1_eq]
  simp only [seqS, wp_bind]
  have e0 : by0 σ S = .ok (.nx (σ.set 17 (some (.int (mixI T a b part whole m))))) S := run_of fun Q E hq => by
    unfold by0 setS
    have x1 : (bin2 itemO (bin2 itemO (bin2 itemO (getV 3) (getV 11)) (cst (.int 1))) (getV 16)) σ S = .ok (.int (T a m)) S := run_of fun Q E hq => by
      show wp ((bin2 itemO (bin2 itemO (getV 3) (getV 11)) (cst (.int 1))) σ >>= fun x => getV 16 σ >>= fun y => itemO x y) S Q E
      rw [wp_bind, wp_eq r1]
      simp only [getV, h16, wp_bind, wp_pure, it5_wp hm]
      exact hq
    have x2 : (bin2 itemO (bin2 itemO (bin2 itemO (getV 3) (getV 12)) (cst (.int 1))) (getV 16)) σ S = .ok (.int (T b m)) S := run_of fun Q E hq => by
      show wp ((bin2 itemO (bin2 itemO (getV 3) (getV 12)) (cst (.int 1))) σ >>= fun x => getV 16 σ >>= fun y => itemO x y) S Q E
      rw [wp_bind, wp_eq r2]
      simp only [getV, h16, wp_bind, wp_pure, it5_wp hm]
      exact hq
    have x3 : (bin2 subI (getV 13) (getV 14)) σ S = .ok (.int (whole - part)) S := run_of fun Q E hq => by
      simp only [bin2, getV, h.s13, h.s14, wp_bind, wp_pure, wp_subI]
      exact hq
    have y1 : ∀ {fa fb : En → M D} {x y : D} (op : D → D → M D), fa σ S = .ok x S → fb σ S = .ok y S → ∀ {Q : D → Sto → Prop} {E : Nat → Sto → Prop}, wp (bin2 op fa fb σ) S Q E = wp (op x y) S Q E := fun {fa fb x y} op h1 h2 {Q E} => by
      unfold bin2
      rw [wp_bind, wp_eq h1, wp_bind, wp_eq h2]
    have x4 : (getV 14) σ S = .ok (.int part) S := run_of fun Q E hq => by simp only [getV, h.s14, wp_pure]; exact hq
    have x5 := run_of (m := bin2 mulA (bin2 itemO (bin2 itemO (bin2 itemO (getV 3) (getV 11)) (cst (.int 1))) (getV 16)) (bin2 subI (getV 13) (getV 14)) σ) (S := S) (S' := S) (a := .int (T a m * (whole - part))) fun Q E hq => by rw [y1 mulA x1 x3, mix_wp q1 q2]; exact hq
    have x6 := run_of (m := bin2 mulA (bin2 itemO (bin2 itemO (bin2 itemO (getV 3) (getV 12)) (cst (.int 1))) (getV 16)) (getV 14) σ) (S := S) (S' := S) (a := .int (T b m * part)) fun Q E hq => by rw [y1 mulA x2 x4, mix_wp p0 q3]; exact hq
    rw [wp_bind, y1 addA x5 x6, wp_addI]
    exact hq
  rw [wp_eq e0]
  have h1 := h.set (i := 17) (by decide) (some (.int (mixI T a b part whole m)))
  have k17 : (σ.set 17 (some (D.int (mixI T a b part whole m))))[17]? = some (some (.int (mixI T a b part whole m))) := List.getElem?_set_self (h.r.w.v.lt (by decide))
  have k16 : (σ.set 17 (some (D.int (mixI T a b part whole m))))[16]? = some (some (.str m)) := by rw [List.getElem?_set_ne (by decide)]; exact h16
  generalize σ.set 17 (some (D.int (mixI T a b part whole m))) = τ at h1 k17 k16
  show wp (by1 τ) S Q E
  have hu : S.locked lu = false := h.r.w.v.lk lu (by have := h.lt; have := h.r.l1; omega)
  have hzz : ((done.map fun m => (m, betI T a b part whole m)).map kvOf).length < sizeLine := by
    rw [List.length_map, List.length_map]
    exact Nat.lt_of_le_of_lt hz (by decide)
  unfold by1
  simp only [asgS, bin2, getV, cst, callE, consA, nilA, k17, k16, h1.s13, h1.s15, wp_bind, wp_pure, wp_fdvI q4 q5, wp_modI q4, m2, wp_geI, wp_intB, wp_addI, subG, setD_wp h1.o hu hzz]
  have hv : val ((done.map fun m => (m, betI T a b part whole m)).map kvOf) (.k (.inr m)) = none := val_bs_none (by
    rw [List.map_map]
    intro z
    obtain ⟨x, hx, rfl⟩ := List.mem_map.mp z
    exact hd hx)
  rw [put_new hv, ← round_eq w1 w9]
  have e : (done.map fun m => (m, betI T a b part whole m)).map kvOf ++ [(DK.k (.inr m), D.int ((2 * mixI T a b part whole m + whole) / (2 * whole)))] = ((done ++ [m]).map fun m => (m, betI T a b part whole m)).map kvOf := by
    rw [List.map_append, List.map_append]
    rfl
  rw [e]
  exact k _ _ (h1.putU _)
theorem rd9_wp {Q : Fl → Sto → Prop} {a b lu : Nat} {part whole : Int} (h : Rb σ S ld lr ls n T p a b part whole lu []) (k : ∀ σ' S', Rb σ' S' ld lr ls n T p a b part whole lu (kv5 (betI T a b part whole)) → Q (.nx σ') S') : wp (rd9 σ) S Q E := by
  unfold rd9
  rw [lockL_wp h.r.w.v.s1]
  unfold forS
  simp only [itSeq, getV, h.r.w.v.s1, wp_bind, wp_pure, itemsL_wp]
  refine wp_loop (fun ds σ S => ∃ done todo, nm5 = done ++ todo ∧ ds = todo.map D.str ∧ Rb σ S ld lr ls n T p a b part whole lu ((done.map fun m => (m, betI T a b part whole m)).map kvOf)) (fun d ds σ S h => ?_) (fun σ S h => ?_) _ _ _ ⟨[], nm5, rfl, rfl, h⟩
  · obtain ⟨done, todo, h1, h2, h3⟩ := h
    match todo, h1, h2 with
    | m :: todo, h1, h2 =>
      rw [List.map_cons] at h2
      injection h2 with h4 h5
      subst h4 h5
      have hnd := nm5_nodup
      rw [h1, List.nodup_append] at hnd
      have hl := congrArg List.length h1
      rw [List.length_append, List.length_cons] at hl
      have h8 : nm5.length = 5 := rfl
      simp only [nameG, wp_pure]
      refine by_wp (done := done) (h3.set (i := 16) (by decide) _) (by rw [h1]; exact List.mem_append_right _ List.mem_cons_self) (fun z => hnd.2.2 _ z _ List.mem_cons_self rfl) (by omega) (List.getElem?_set_self (h3.r.w.v.lt (by decide))) fun σ' S' h' => ?_
      exact ⟨done ++ [m], todo, by rw [h1, List.append_assoc]; rfl, rfl, h'⟩
  · obtain ⟨done, todo, h1, h2, h3⟩ := h
    have : todo = [] := List.map_eq_nil_iff.mp h2.symm
    subst this
    rw [List.append_nil] at h1
    subst h1
    exact k σ S h3
end
end K01

set_option Elab.async false
set_option linter.all false
set_option maxRecDepth 100000
set_option maxHeartbeats 1000000
namespace K01
open PySem PySem.Spec PyProof.Rows L2 LamX Fd
section
variable {S : Sto} {E : Nat → Sto → Prop} {Q : D → Sto → Prop} {σ : En} {ld lr ls n : Nat} {T : Nat → Tb} {p : Tb}
/-! rd10: between, size -/
def nmE (c : D) (i : Nat) : En → M D := bin2 addA (cst c) (callE (consA (getV i) nilA) strC)
theorem nmE_ok {c : Str} {i k : Nat} (h : σ[i]? = some (some (.int (k : Int)))) (hk : k < 8) (hc : c.length ≤ 10) : nmE (.str c) i σ S = .ok (.str (nmOf c (k : Int))) S := run_of fun Q E hq => by
  unfold nmE
  simp only [bin2, cst, callE, consA, nilA, getV, h, wp_bind, wp_pure, str_wp (show (0 : Int) ≤ (k : Int) by omega) (show (k : Int) < 1000 by omega), addN_wp (show (0 : Int) ≤ (k : Int) by omega) (show (k : Int) < 8 by omega) hc]
  exact hq
theorem neTb {t : Tb} : neA (tb t) (tb t) S = .ok (.bl false) S := run_of fun Q E hq => by
  unfold tb kv5
  rw [neDctV_wp (rw5_nod t)]
  exact hq
theorem s10 : ("s" : Str).length ≤ 10 := by decide +kernel
theorem rd10_wp {Q : Fl → Sto → Prop} {a b lu : Nat} {part whole : Int} (h : Rb σ S ld lr ls n T p a b part whole lu (kv5 (betI T a b part whole))) (k : ∀ S', Rz σ S' ld lr ls n T p → Q (.nx σ) S') : wp (rd10 σ) S Q E := by
  have n4 := h.r.k.n4
  have ha := h.ha
  have hb := h.hb
  have e1 := between_ok h.r.w.v.fre h.r.z h.r.k h.ha h.hb h.w1 h.w9 h.p0 h.p1
  have g := Gr.push S (.dct false (kv5 (betI T a b part whole)))
  have o1 := push_at S (.dct false (kv5 (betI T a b part whole)))
  have o2 := g.at_ h.o
  have h2 := h.r.gr g
  have na := nmE_ok (S := S) (c := "s") h.s11 (by omega) s10
  have nb := nmE_ok (S := S) (c := "s") h.s12 (by omega) s10
  generalize S.push (.dct false (kv5 (betI T a b part whole))) = S1 at e1 g o1 o2 h2
  have na1 := nmE_ok (S := S1) (c := "s") h.s11 (by omega) s10
  have ne := neDctRR_ok (rw5_nod (betI T a b part whole)) o1 o2
  have c1 : ("between" : Str) ≠ "rows" := by decide +kernel
  have c2 : ("size" : Str) ≠ "rows" := by decide +kernel
  have es := size_ok h2.z h2.k h.ha
  have hit := rowIt h2 h.ha h.s11
  have b1 : (bin2 neA (methE 1 "between" (getV 6) (consA (nmE (.str "s") 11) (consA (nmE (.str "s") 12) (consA (getV 14) (consA (getV 13) nilA)))) (arg 5 D_SizesBetween)) (getV 15)) σ S = .ok (.bl false) S1 := run_of fun Q E hq => by
    simp only [bin2, methE, wp_bind]
    rw [show getV 6 σ = M.pure (.ref ls) from by unfold getV; rw [h.r.s6], wp_pure, methZ h.r.z c1]
    simp only [consA, nilA, wp_bind, wp_eq na, wp_eq nb, getV, h.s14, h.s13, h.s15, wp_pure, arg, List.length_cons, List.length_nil, if_true, show ((0 : Nat) + 1 + 1 + 1 + 1 + 1 = 5) = True from eq_true rfl, wp_eq e1, wp_eq ne]
    exact hq
  have b2 : (bin2 neA (methE 1 "size" (getV 6) (consA (nmE (.str "s") 11) nilA) (arg 2 D_SizesSize)) (bin2 itemO (bin2 itemO (getV 3) (getV 11)) (cst (.int 1)))) σ S1 = .ok (.bl false) S1 := run_of fun Q E hq => by
    show wp (methE 1 "size" (getV 6) (consA (nmE (.str "s") 11) nilA) (arg 2 D_SizesSize) σ >>= fun x => (bin2 itemO (bin2 itemO (getV 3) (getV 11)) (cst (.int 1))) σ >>= fun y => neA x y) S1 Q E
    simp only [methE, wp_bind]
    rw [show getV 6 σ = M.pure (.ref ls) from by unfold getV; rw [h.r.s6], wp_pure, methZ h2.z c2]
    simp only [consA, nilA, wp_bind, wp_eq na1, wp_pure, arg, List.length_cons, List.length_nil, if_true, show ((0 : Nat) + 1 + 1 = 2) = True from eq_true rfl, wp_eq es]
    rw [wp_eq hit, wp_eq neTb]
    exact hq
  unfold rd10
  show wp (ifS (orT (tst1 (bin2 neA (methE 1 "between" (getV 6) (consA (nmE (.str "s") 11) (consA (nmE (.str "s") 12) (consA (getV 14) (consA (getV 13) nilA)))) (arg 5 D_SizesBetween)) (getV 15))) (tst1 (bin2 neA (methE 1 "size" (getV 6) (consA (nmE (.str "s") 11) nilA) (arg 2 D_SizesSize)) (bin2 itemO (bin2 itemO (getV 3) (getV 11)) (cst (.int 1)))))) (retS (cst (.bl false))) skip σ) S Q E
  unfold ifS orT tst1
  simp only [wp_bind, wp_eq b1, wp_asB, Bool.false_eq_true, if_false, wp_eq b2, wp_ite, skip, wp_pure]
  exact k _ h2
/-! rd11: alterations -/
theorem altR_py (S : Sto) (k : Nat) (q t : Tb) : ∀ l : List Str, ((l.map fun m => D.tup [.str m, .int (q m - t m)]).mapM (toPy S (k + 2))) = some (l.map fun m => PyData.tuple [.str m, .int (q m - t m)])
  | [] => rfl
  | m :: l => by
    rw [List.map_cons, List.mapM_cons, altR_py S k q t l]
    rfl
theorem plain_alt (q t : Tb) : ∀ l : List Str, PyData.plainAll (l.map fun m => PyData.tuple [.str m, .int (q m - t m)]) = true
  | [] => rfl
  | m :: l => by
    rw [List.map_cons]
    show (PyData.plain (.tuple [.str m, .int (q m - t m)]) && _) = true
    rw [plain_alt q t l]
    rfl
theorem neAlt {q t : Tb} : neA (.lst (altR q t)) (.lst (altR q t)) S = .ok (.bl false) S := by
  unfold altR
  refine neSame_ok (p := .list ((nm5.filter fun m => !decide (q m = t m)).map fun m => PyData.tuple [.str m, .int (q m - t m)])) rfl ?_ (PySem.SeqAt.eqv_refl_plain _ (plain_alt q t _))
  show (List.mapM (toPy S 11) _).map PyData.list = _
  rw [altR_py S 9 q t]
  rfl
theorem rd11_wp {Q : Fl → Sto → Prop} (h : Rz σ S ld lr ls n T p) (k : Q (.nx σ) S) : wp (rd11 σ) S Q E := by
  have n1 := h.k.n1
  have c1 : ("alterations" : Str) ≠ "rows" := by decide +kernel
  have e1 := alter_ok (a := 0) h.z h.k (by omega) h.hp.ok
  have s0 : nmOf "s" ((0 : Nat) : Int) = ("s0" : Str) := by decide +kernel
  rw [s0] at e1
  have e2 : listC false [.tup (altR p (T 0))] S = .ok (.lst (altR p (T 0))) S := rfl
  have g : genE (itSeq (getV 1)) [16] (nameG 16) (tst1 (bin2 neA (bin2 itemO (getV 7) (getV 16)) (bin2 itemO (bin2 itemO (bin2 itemO (getV 3) (cst (.int 0))) (cst (.int 1))) (getV 16)))) (tupV (consA (getV 16) (consA (bin2 subI (bin2 itemO (getV 7) (getV 16)) (bin2 itemO (bin2 itemO (bin2 itemO (getV 3) (cst (.int 0))) (cst (.int 1))) (getV 16))) nilA))) chkAll finLst σ S = .ok (.lst (altR p (T 0))) S := by
    rw [genE_ok D.str nm5 (fun m => if (!decide (p m = T 0 m)) = true then some (.tup [.str m, .int (p m - T 0 m)]) else none) (run_of fun Q E hq => by simp only [itSeq, getV, h.w.v.s1, wp_bind, wp_pure, itemsL_wp]; exact hq) (fun m hm => run_of fun Q E hq => ?_) (by decide), filterMap_if]
    · rfl
    · have l16 : 16 < (σ.set 16 none).length := by rw [List.length_set, h.w.v.n]; decide
      have k7 : ((σ.set 16 none).set 16 (some (D.str m)))[7]? = some (some (tb p)) := by rw [List.getElem?_set_ne (by decide), List.getElem?_set_ne (by decide)]; exact h.s7
      have k3 : ((σ.set 16 none).set 16 (some (D.str m)))[3]? = some (some (.ref lr)) := by rw [List.getElem?_set_ne (by decide), List.getElem?_set_ne (by decide)]; exact h.w.s3
      have k16 : ((σ.set 16 none).set 16 (some (D.str m)))[16]? = some (some (.str m)) := List.getElem?_set_self l16
      simp only [bodG, nameG, wipeE, wp_bind, wp_pure]
      generalize (σ.set 16 none).set 16 (some (D.str m)) = τ at k7 k3 k16
      have i0 : itemO (.ref lr) (.int 0) S = .ok (rowT T 0) S := ixR_ok (k := 0) h.w.o (rowsT_at (by omega))
      have i1 : ∀ {Q : D → Sto → Prop} {E : Nat → Sto → Prop}, wp (itemO (rowT T 0) (.int 1)) S Q E = Q (tb (T 0)) S := fun {Q E} => by unfold rowT; exact ix1_wp _ _
      simp only [tst1, tup2_wp, bin2, getV, cst, wp_bind, wp_pure, wp_ite, k7, k3, k16, wp_eq i0, i1, it5_wp hm, wp_neI, wp_asB, wp_subI]
      by_cases e : (!decide (p m = T 0 m)) = true
      · rw [if_pos e] at hq ⊢
        exact hq
      · rw [if_neg e] at hq ⊢
        exact hq
  have b1 : (callE (consA (methE 1 "alterations" (getV 6) (consA (getV 7) (consA (cst (.str "s0")) nilA)) (arg 3 D_SizesAlterations)) nilA) (listC false)) σ S = .ok (.lst (altR p (T 0))) S := run_of fun Q E hq => by
    rw [call1_wp]
    simp only [methE, wp_bind]
    rw [show getV 6 σ = M.pure (.ref ls) from by unfold getV; rw [h.s6], wp_pure, methZ h.z c1]
    simp only [consA, nilA, getV, h.s7, cst, wp_bind, wp_pure, arg, List.length_cons, List.length_nil, if_true, show ((0 : Nat) + 1 + 1 + 1 = 3) = True from eq_true rfl, wp_eq e1, wp_eq e2]
    exact hq
  unfold rd11
  unfold ifS tst1 bin2
  simp only [wp_bind]
  rw [wp_eq b1]
  show wp (lockQ (locV 1) (genE (itSeq (getV 1)) [16] (nameG 16) (tst1 (bin2 neA (bin2 itemO (getV 7) (getV 16)) (bin2 itemO (bin2 itemO (bin2 itemO (getV 3) (cst (.int 0))) (cst (.int 1))) (getV 16)))) (tupV (consA (getV 16) (consA (bin2 subI (bin2 itemO (getV 7) (getV 16)) (bin2 itemO (bin2 itemO (bin2 itemO (getV 3) (cst (.int 0))) (cst (.int 1))) (getV 16))) nilA))) chkAll finLst) σ) S _ _
  rw [lockL_wp h.w.v.s1, wp_eq g, wp_eq neAlt, wp_asB]
  simp only [wp_ite, Bool.false_eq_true, if_false, skip, wp_pure]
  exact k
end
end K01

set_option Elab.async false
set_option linter.all false
set_option maxRecDepth 100000
set_option maxHeartbeats 1000000
namespace K01
open PySem PySem.Spec PyProof.Rows L2 LamX Fd
/-! ### all rows of so many names, in order -/
def cmb : List Str → Nat → List (List Str)
  | _, 0 => [[]]
  | [], _ + 1 => []
  | x :: ns, k + 1 => (cmb ns k).map (x :: ·) ++ cmb ns (k + 1)
theorem cmb_nil (k : Nat) : cmb [] (k + 1) = [] := rfl
theorem cmb_zero (ns : List Str) : cmb ns 0 = [[]] := by cases ns <;> rfl
theorem cmb_cons (x : Str) (ns : List Str) (k : Nat) : cmb (x :: ns) (k + 1) = (cmb ns k).map (x :: ·) ++ cmb ns (k + 1) := rfl
theorem cmb_len : ∀ (ns : List Str) (k : Nat), (cmb ns k).length ≤ 2 ^ ns.length
  | ns, 0 => by rw [cmb_zero]; exact Nat.one_le_two_pow
  | [], k + 1 => by rw [cmb_nil]; exact Nat.zero_le _
  | x :: ns, k + 1 => by
    rw [cmb_cons, List.length_append, List.length_map, List.length_cons, Nat.pow_succ]
    have h1 := cmb_len ns k
    have h2 := cmb_len ns (k + 1)
    omega
theorem cmb_mem : ∀ (ns : List Str) (k : Nat) (h : List Str), h ∈ cmb ns k → h.length = k ∧ h.Sublist ns
  | ns, 0, h, hm => by
    rw [cmb_zero, List.mem_singleton] at hm
    subst hm
    exact ⟨rfl, List.nil_sublist _⟩
  | [], k + 1, h, hm => by rw [cmb_nil] at hm; cases hm
  | x :: ns, k + 1, h, hm => by
    rw [cmb_cons, List.mem_append, List.mem_map] at hm
    rcases hm with ⟨r, hr, rfl⟩ | hm
    · obtain ⟨h1, h2⟩ := cmb_mem ns k r hr
      exact ⟨by rw [List.length_cons, h1], h2.cons₂ x⟩
    · obtain ⟨h1, h2⟩ := cmb_mem ns (k + 1) h hm
      exact ⟨h1, h2.cons x⟩
theorem cmb_ne : ∀ (ns : List Str) (k : Nat), k ≤ ns.length → cmb ns k ≠ []
  | ns, 0, _ => by rw [cmb_zero]; exact List.cons_ne_nil _ _
  | [], k + 1, h => by cases h
  | x :: ns, k + 1, h => by
    rw [cmb_cons]
    have := cmb_ne ns k (Nat.le_of_succ_le_succ h)
    intro z
    have z := (List.append_eq_nil_iff.mp z).1
    exact this (List.map_eq_nil_iff.mp z)
def encH (h : List Str) : D := .ft (h.map .str)
section
variable {S : Sto} {E : Nat → Sto → Prop} {Q : D → Sto → Prop} {σ : En}
theorem slLst_ok (ds : List D) {k : Nat} (h : k ≤ ds.length) : sliceC (.lst ds) (some (k : Int)) none S = .ok (.lst (ds.drop k)) S := by
  show Fd.R.ok (D.lst (Fd.cutD ds (some (k : Int)) none)) S = _
  rw [cut_from ds h]
theorem tupF1_ok {fe : En → M D} {d : D} (h : fe σ S = .ok d S) : tupF (consA fe nilA) σ S = .ok (.ft [d]) S := run_of fun Q E hq => by
  simp only [tupF, consA, nilA, wp_bind, wp_eq h, wp_pure, wp_ite, List.length_cons, List.length_nil, show ((0 : Nat) + 1 ≤ sizeLine) = True from eq_true (by decide), if_true]
  exact hq
theorem tupF0_ok : tupF nilA σ S = .ok (.ft []) S := run_of fun Q E hq => by
  simp only [tupF, nilA, wp_bind, wp_pure, wp_ite, List.length_nil, show ((0 : Nat) ≤ sizeLine) = True from eq_true (Nat.zero_le _), if_true]
  exact hq
theorem addF_ok {xs ys : List D} (h : xs.length + ys.length ≤ sizeLine) : addF (.ft xs) (.ft ys) S = .ok (.ft (xs ++ ys)) S := by
  show (if xs.length + ys.length ≤ sizeLine then M.pure (D.ft (xs ++ ys)) else M.stk : M D) S = _
  rw [if_pos h]
  rfl
theorem lheads_ok : ∀ (f : Nat) (ns : List Str) (k : Nat) (S : Sto), k ≤ f → f ≤ 8 → ns.length ≤ 6 → D_lawHeads (f + 1) [.lst (ns.map .str), .int (k : Int)] S = .ok (.lst ((cmb ns k).map encH)) S := by
  intro f
  induction f with
  | zero =>
    intro ns k S hk _ hn
    have : k = 0 := by omega
    subst this
    exact run_of fun Q E hq => by
      show wp (bodyD 6 (dn_lawHeads (D_lawHeads 0)) [.lst (ns.map .str), .int ((0 : Nat) : Int)]) S Q E
      unfold bodyD dn_lawHeads
      rw [show startD 6 [.lst (ns.map .str), .int ((0 : Nat) : Int)] = [some (.lst (ns.map .str)), some (.int ((0 : Nat) : Int)), none, none, none, none] from rfl]
      simp only [seqS, ifS, tst1, bin2, getV, cst, wp_bind, wp_pure, wp_ite, List.getElem?_cons_zero, List.getElem?_cons_succ, wp_eqI, wp_asB, show decide (((0 : Nat) : Int) = 0) = true from rfl, if_true, retS, lst1_wp, wp_eq tupF0_ok]
      rw [cmb_zero] at hq
      exact hq
  | succ f ih =>
    intro ns k S hk hf hn
    cases k with
    | zero =>
      exact run_of fun Q E hq => by
        show wp (bodyD 6 (dn_lawHeads (D_lawHeads (f + 1))) [.lst (ns.map .str), .int ((0 : Nat) : Int)]) S Q E
        unfold bodyD dn_lawHeads
        rw [show startD 6 [.lst (ns.map .str), .int ((0 : Nat) : Int)] = [some (.lst (ns.map .str)), some (.int ((0 : Nat) : Int)), none, none, none, none] from rfl]
        simp only [seqS, ifS, tst1, bin2, getV, cst, wp_bind, wp_pure, wp_ite, List.getElem?_cons_zero, List.getElem?_cons_succ, wp_eqI, wp_asB, show decide (((0 : Nat) : Int) = 0) = true from rfl, if_true, retS, lst1_wp, wp_eq tupF0_ok]
        rw [cmb_zero] at hq
        exact hq
    | succ k =>
      refine run_of fun Q E hq => ?_
      show wp (bodyD 6 (dn_lawHeads (D_lawHeads (f + 1))) [.lst (ns.map .str), .int ((k + 1 : Nat) : Int)]) S Q E
      unfold bodyD dn_lawHeads
      rw [show startD 6 [.lst (ns.map .str), .int ((k + 1 : Nat) : Int)] = [some (.lst (ns.map .str)), some (.int ((k + 1 : Nat) : Int)), none, none, none, none] from rfl]
      simp only [seqS, ifS, tst1, bin2, getV, cst, wp_bind, wp_pure, wp_ite, List.getElem?_cons_zero, List.getElem?_cons_succ, wp_eqI, wp_asB, show decide (((k + 1 : Nat) : Int) = 0) = false from decide_eq_false (by omega), Bool.false_eq_true, if_false, skip, setS, lst0_wp, List.set_cons_zero, List.set_cons_succ]
      rw [lockL_wp (i := 0) (ds := ns.map .str) rfl]
      have hE : ∀ {Q : List D → Sto → Prop} {E : Nat → Sto → Prop}, wp (enumC (.lst (ns.map .str))) S Q E = Q (enumD 0 (ns.map .str)) S := fun {Q E} => wp_eq rfl
      simp only [forS, enumS, getV, wp_bind, wp_pure, List.getElem?_cons_zero, hE]
      have z6 : 2 ^ ns.length ≤ 64 := Nat.pow_le_pow_right (by decide) hn
      have zc := cmb_len ns (k + 1)
      have zs : 100 ≤ sizeLine := by decide
      refine wp_loop (fun ds σ S' => S' = S ∧ ∃ done todo found, ns = done ++ todo ∧ ds = enumD done.length (todo.map D.str) ∧ found ++ cmb todo (k + 1) = cmb ns (k + 1) ∧ ∃ x y z, σ = [some (.lst (ns.map .str)), some (.int ((k + 1 : Nat) : Int)), some (.lst (found.map encH)), x, y, z]) (fun d ds σ S' h => ?_) (fun σ S' h => ?_) _ _ _ ⟨rfl, [], ns, [], rfl, rfl, rfl, none, none, none, rfl⟩
      · obtain ⟨rfl, done, todo, found, h1, h2, h3, x, y, z, rfl⟩ := h
        match todo, h1, h2, h3 with
        | m :: todo, h1, h2, h3 =>
          rw [List.map_cons] at h2
          unfold enumD at h2
          injection h2 with h4 h5
          subst h4 h5
          have hdrop : (ns.map D.str).drop (done.length + 1) = todo.map D.str := by
            rw [← List.map_drop, h1, show done ++ m :: todo = (done ++ [m]) ++ todo by rw [List.append_assoc]; rfl, List.drop_left' (by rw [List.length_append, List.length_singleton])]
          have hdl : done.length + 1 ≤ (ns.map D.str).length := by
            rw [List.length_map, h1, List.length_append, List.length_cons]
            omega
          have hsl : sliceC (.lst (ns.map D.str)) (some ((done.length : Int) + 1)) none S' = .ok (.lst (todo.map .str)) S' := by
            have e := slLst_ok (S := S') (ns.map D.str) hdl
            rw [hdrop] at e
            exact e
          have htl : todo.length ≤ 6 := by
            have := congrArg List.length h1
            rw [List.length_append, List.length_cons] at this
            omega
          have hrec : D_lawHeads (f + 1) [.lst (todo.map .str), .int (((k + 1 : Nat) : Int) - 1)] S' = .ok (.lst ((cmb todo k).map encH)) S' := by
            have e := ih todo k S' (by omega) (by omega) htl
            rw [show (((k + 1 : Nat) : Int) - 1) = (k : Int) by omega]
            exact e
          rw [cmb_cons, ← List.append_assoc] at h3
          have hlen : found.length + (cmb todo k).length ≤ 64 := by
            have := congrArg List.length h3
            rw [List.length_append, List.length_append, List.length_map] at this
            omega
          have g : genE (itSeq (callE (consA (sliceE (getV 0) (some (bin2 addA (getV 3) (cst (.int 1)))) none) (consA (bin2 subI (getV 1) (cst (.int 1))) nilA)) (arg 2 (D_lawHeads (f + 1))))) [5] (nameG 5) yesT (bin2 addF (tupF (consA (getV 4) nilA)) (getV 5)) chkAll finLst [some (.lst (ns.map .str)), some (.int ((k + 1 : Nat) : Int)), some (.lst (found.map encH)), some (.int (done.length : Int)), some (.str m), z] S' = .ok (.lst (((cmb todo k).map (m :: ·)).map encH)) S' := by
            rw [genE_ok encH (cmb todo k) (fun h => some (encH (m :: h))) (run_of fun Q E hq => ?_) (fun h hh => run_of fun Q E hq => ?_) (by omega), filterMap_some, List.map_map]
            · rfl
            · simp only [itSeq, callE, consA, nilA, sliceE, partD, bin2, getV, cst, arg, wp_bind, wp_pure, wp_ite, List.getElem?_cons_zero, List.getElem?_cons_succ, wp_addI, wp_eq hsl, wp_subI, List.length_cons, List.length_nil, show ((0 : Nat) + 1 + 1 = 2) = True from eq_true rfl, if_true, wp_eq hrec, itemsL_wp]
              exact hq
            · have t1 : tupF (consA (getV 4) nilA) [some (.lst (ns.map .str)), some (.int ((k + 1 : Nat) : Int)), some (.lst (found.map encH)), some (.int (done.length : Int)), some (.str m), some (encH h)] S' = .ok (.ft [.str m]) S' := tupF1_ok (run_of fun Q E hq => by simp only [getV, List.getElem?_cons_zero, List.getElem?_cons_succ, wp_pure]; exact hq)
              have hl := (cmb_mem _ _ _ hh).1
              have t2 : addF (.ft [.str m]) (encH h) S' = .ok (encH (m :: h)) S' := addF_ok (by
                rw [List.length_map, List.length_singleton]
                omega)
              simp only [bodG, nameG, yesT, wipeE, bin2, wp_bind, wp_pure, wp_ite, if_true, List.set_cons_zero, List.set_cons_succ, wp_eq t1, getV, List.getElem?_cons_zero, List.getElem?_cons_succ, wp_eq t2]
              exact hq
          simp only [tupG, tupD, consG, nilG, nameG, wp_bind, wp_pure, wp_ite, List.length_cons, List.length_nil, if_true, List.set_cons_zero, List.set_cons_succ, L_lawHeads_b0, setS]
          have hg : (bin2 addA (getV 2) (genE (itSeq (callE (consA (sliceE (getV 0) (some (bin2 addA (getV 3) (cst (.int 1)))) none) (consA (bin2 subI (getV 1) (cst (.int 1))) nilA)) (arg 2 (D_lawHeads (f + 1))))) [5] (nameG 5) yesT (bin2 addF (tupF (consA (getV 4) nilA)) (getV 5)) chkAll finLst)) [some (.lst (ns.map .str)), some (.int ((k + 1 : Nat) : Int)), some (.lst (found.map encH)), some (.int (done.length : Int)), some (.str m), z] S' = .ok (.lst ((found ++ (cmb todo k).map (m :: ·)).map encH)) S' := run_of fun Q E hq => by
            show wp (getV 2 _ >>= fun x => genE _ _ _ _ _ _ _ _ >>= fun y => addA x y) S' Q E
            simp only [getV, List.getElem?_cons_zero, List.getElem?_cons_succ, wp_bind, wp_pure]
            rw [wp_eq g, addL_wp _ _ (by rw [List.length_map, List.length_map, List.length_map]; omega), ← List.map_append]
            exact hq
          rw [wp_eq hg]
          exact ⟨rfl, done ++ [m], todo, found ++ (cmb todo k).map (m :: ·), by rw [h1, List.append_assoc]; rfl, by rw [List.length_append, List.length_singleton], h3, _, _, _, rfl⟩
      · obtain ⟨rfl, done, todo, found, h1, h2, h3, x, y, z, rfl⟩ := h
        have : todo = [] := by cases todo with
          | nil => rfl
          | cons _ _ => rw [List.map_cons] at h2; unfold enumD at h2; cases h2
        subst this
        rw [cmb_nil, List.append_nil] at h3
        subst h3
        simp only [retS, getV, wp_bind, wp_pure, List.getElem?_cons_zero, List.getElem?_cons_succ]
        exact hq
end
end K01

set_option Elab.async false
set_option linter.all false
set_option maxRecDepth 100000
set_option maxHeartbeats 1000000
namespace K01
open PySem PySem.Spec PyProof.Rows L2 LamX Fd
/-! ### people -/
def pk (ns : List Str) (tab : Str → Tb) : List (DK × D) := ns.map fun s => (DK.k (.inr s), tb (tab s))
structure Ppl (ns : List Str) (tab : Str → Tb) : Prop where
  nod : ns.Nodup
  so : SortedN ns
  l1 : 1 ≤ ns.length
  l6 : ns.length ≤ 6
  ok : ∀ s ∈ ns, Ok (tab s)
theorem pk_keys (ns : List Str) (tab : Str → Tb) : (pk ns tab).map (·.1) = ns.map fun s => DK.k (.inr s) := by
  unfold pk
  rw [List.map_map]
  rfl
theorem keys_nodup {ns : List Str} (h : ns.Nodup) : (ns.map fun s => DK.k (.inr s)).Nodup := List.pairwise_map.mpr (h.imp fun {a b} hab e => hab (by cases e; rfl))
theorem valP {ns : List Str} {tab : Str → Tb} (P : Ppl ns tab) {s : Str} (h : s ∈ ns) : val (pk ns tab) (.k (.inr s)) = some (tb (tab s)) :=
  val_of_nodup (by rw [pk_keys]; exact keys_nodup P.nod) (List.mem_map.mpr ⟨s, h, rfl⟩)
/-! ### the nearest head -/
def keysN (tab : Str → Tb) (h : List Str) (s : Str) : List (Int × Int) := (List.range h.length).map fun k => (far5 (tab s) (tab (h.getD k "")), (k : Int))
def decP : List D → Int × Int
  | (.tup [.int a, .int b]) :: _ => (a, b)
  | _ => (0, 0)
def idxS (h : List Str) (s : Str) : Nat := (h.findIdx? fun t => decide (t = s)).getD 0
def nearK (tab : Str → Tb) (h : List Str) (s : Str) : Int × Int := if s ∈ h then (0, (idxS h s : Int)) else decP (srt enc2 py2 (keysN tab h s))
theorem idxS_ok {h : List Str} {s : Str} (hm : s ∈ h) : (h.findIdx? fun t => decide (t = s)) = some (idxS h s) ∧ idxS h s < h.length := by
  unfold idxS
  cases e : h.findIdx? fun t => decide (t = s) with
  | none =>
    rw [List.findIdx?_eq_none_iff] at e
    have := e s hm
    simp at this
  | some j =>
    refine ⟨rfl, ?_⟩
    obtain ⟨h1, _⟩ := List.findIdx?_eq_some_iff_getElem.mp e
    exact h1
theorem keysN_ne {tab : Str → Tb} {h : List Str} {s : Str} (hh : h ≠ []) : keysN tab h s ≠ [] := fun z => by
  have := congrArg List.length z
  unfold keysN at this
  rw [List.length_map, List.length_range] at this
  exact hh (List.length_eq_zero_iff.mp this)
theorem near_srt {tab : Str → Tb} {h : List Str} {s : Str} (hh : h ≠ []) (hm : s ∉ h) : ∃ r, srt enc2 py2 (keysN tab h s) = enc2 (nearK tab h s) :: r ∧ nearK tab h s ∈ keysN tab h s := by
  obtain ⟨b, r, e, hb⟩ := srt_head (enc := enc2) (py := py2) (keysN_ne (tab := tab) (s := s) hh)
  have hn : nearK tab h s = b := by
    unfold nearK
    rw [if_neg hm, e]
    rfl
  rw [hn]
  exact ⟨r, e, hb.1⟩
theorem getD_mem {h : List Str} {k : Nat} (hk : k < h.length) : h.getD k "" ∈ h := by
  rw [List.getD_eq_getElem?_getD, List.getElem?_eq_getElem hk]
  exact List.getElem_mem _
theorem near_bd {ns : List Str} {tab : Str → Tb} (P : Ppl ns tab) {h : List Str} {s : Str} (hh : h ≠ []) (hs : s ∈ ns) (hsub : ∀ x ∈ h, x ∈ ns) : 0 ≤ (nearK tab h s).1 ∧ (nearK tab h s).1 < 1000000000 ∧ ∃ j : Nat, (nearK tab h s).2 = (j : Int) ∧ j < h.length := by
  by_cases hm : s ∈ h
  · have e : nearK tab h s = (0, (idxS h s : Int)) := by unfold nearK; rw [if_pos hm]
    rw [e]
    exact ⟨Int.le_refl 0, show (0 : Int) < 1000000000 by decide, _, rfl, (idxS_ok hm).2⟩
  · obtain ⟨r, _, hb⟩ := near_srt (tab := tab) hh hm
    unfold keysN at hb
    obtain ⟨k, hk, e⟩ := List.mem_map.mp hb
    have hk := List.mem_range.mp hk
    rw [← e]
    have := far5_nonneg (P.ok s hs) (P.ok _ (hsub _ (getD_mem hk)))
    exact ⟨this.1, this.2, k, rfl, hk⟩
def grpJ (tab : Str → Tb) (h done : List Str) (j : Nat) : List Str := done.filter fun s => decide ((nearK tab h s).2 = (j : Int))
def grpL (tab : Str → Tb) (h done : List Str) : List (List Str) := (List.range h.length).map (grpJ tab h done)
def totL (tab : Str → Tb) (h done : List Str) : Int := (done.map fun s => (nearK tab h s).1).sum
def encR (tab : Str → Tb) (ns : List Str) (h : List Str) : D := .tup [.int (totL tab h ns), encH h, .tup ((grpL tab h ns).map fun r => .tup (r.map .str))]
def pyR (tab : Str → Tb) (ns : List Str) (h : List Str) : PyData := .tuple [.int (totL tab h ns), .tuple (h.map .str), .tuple ((grpL tab h ns).map fun r => .tuple (r.map .str))]
section
variable {S : Sto} {E : Nat → Sto → Prop} {Q : D → Sto → Prop} {σ : En}
theorem py_rows (S : Sto) (k : Nat) : ∀ l : List (List Str), (l.map fun r => D.tup (r.map .str)).mapM (toPy S (k + 2)) = some (l.map fun r => PyData.tuple (r.map .str))
  | [] => rfl
  | r :: l => by
    rw [List.map_cons, List.mapM_cons, py_rows S k l]
    have e : toPy S (k + 2) (D.tup (r.map .str)) = some (.tuple (r.map .str)) := by
      show ((r.map D.str).mapM (toPy S (k + 1))).map PyData.tuple = _
      rw [mapM_strs]
      rfl
    rw [e]
    rfl
theorem encH_py (S : Sto) (k : Nat) (h : List Str) : toPy S (k + 2) (encH h) = some (.tuple (h.map .str)) := by
  show ((h.map D.str).mapM (toPy S (k + 1))).map PyData.tuple = _
  rw [mapM_strs]
  rfl
theorem srtR (tab : Str → Tb) (ns : List Str) : Srt (encR tab ns) (pyR tab ns) S := by
  refine ⟨fun h => ?_, fun a b => ?_, fun _ => rfl⟩
  · show (([D.int (totL tab h ns), encH h, .tup ((grpL tab h ns).map fun r => .tup (r.map .str))] : List D).mapM (toPy S 11)).map PyData.tuple = _
    have e1 : toPy S 11 (encH h) = some (.tuple (h.map .str)) := encH_py S 9 h
    have e2 : toPy S 11 (.tup ((grpL tab h ns).map fun r => .tup (r.map .str))) = some (.tuple ((grpL tab h ns).map fun r => .tuple (r.map .str))) := by
      show (((grpL tab h ns).map fun r => D.tup (r.map .str)).mapM (toPy S 10)).map PyData.tuple = _
      rw [py_rows S 8]
      rfl
    have e0 : toPy S 11 (.int (totL tab h ns)) = some (.int (totL tab h ns)) := rfl
    rw [List.mapM_cons, List.mapM_cons, List.mapM_cons, List.mapM_nil, e0, e1, e2]
    rfl
  · simp [pyR, PySem.W.alike, PySem.W.alikeAll, alikeS, alikeSS]
theorem totR {tab : Str → Tb} {ns : List Str} {a b : List Str} (hl : a.length = b.length) (h1 : PySem.W.dataLt (pyR tab ns a) (pyR tab ns b) = false) (h2 : PySem.W.dataLt (pyR tab ns b) (pyR tab ns a) = false) : a = b := key3_total hl h1 h2
/-! ### heads: in, index, enumerate -/
theorem inF_ok (xs : List Str) (k : Str) : inO (.str k) (encH xs) S = .ok (.bl (decide (k ∈ xs))) S := by
  show (match py S (.str k), (py S (encH xs)).bind pyItems with
    | some a, some bs => Fd.R.ok (D.bl (bs.any fun z => PyData.eqv z a)) S
    | _, _ => .stk) = _
  have h : py S (encH xs) = some (.tuple (xs.map .str)) := encH_py S 10 xs
  rw [h]
  show Fd.R.ok (D.bl ((xs.map PyData.str).any fun z => PyData.eqv z (.str k))) S = _
  congr 2
  rw [Bool.eq_iff_iff, List.any_eq_true, decide_eq_true_eq]
  constructor
  · rintro ⟨z, hz, e⟩
    obtain ⟨i, hi, rfl⟩ := List.mem_map.mp hz
    rw [eqv_str, decide_eq_true_eq] at e
    rw [← e]
    exact hi
  · intro h
    exact ⟨.str k, List.mem_map.mpr ⟨k, h, rfl⟩, by rw [eqv_str]; simp⟩
theorem mapM_strD : ∀ h : List Str, (h.map D.str).mapM strD = some h
  | [] => rfl
  | x :: h => by
    rw [List.map_cons, List.mapM_cons, mapM_strD h]
    rfl
theorem tind_ok {h : List Str} {s : Str} (hm : s ∈ h) {i j : Nat} (hi : σ[i]? = some (some (encH h))) (hj : σ[j]? = some (some (.str s))) : tmE (getV i) (consA (getV j) nilA) σ S = .ok (.int (idxS h s : Int)) S := run_of fun Q E hq => by
  have e1 : isFt (encH h) S = .ok () S := rfl
  have e2 : tindF (encH h) [.str s] S = .ok (.int (idxS h s : Int)) S := by
    unfold encH tindF
    show (match (h.map D.str).mapM strD with
      | some ss => (match ss.findIdx? fun t => decide (t = s) with
        | some j => Fd.R.ok (D.int (j : Nat)) S
        | none => .stk)
      | none => .stk) = _
    rw [mapM_strD]
    simp only [(idxS_ok hm).1]
  simp only [tmE, consA, nilA, getV, hi, hj, wp_bind, wp_pure, wp_eq e1, wp_eq e2]
  exact hq
theorem list_range {h : List Str} : h.map D.str = (List.range h.length).map fun k => D.str (h.getD k "") := by
  refine List.ext_getElem (by simp) fun i h1 h2 => ?_
  simp only [List.getElem_map, List.getElem_range]
  rw [List.length_map] at h1
  rw [List.getD_eq_getElem?_getD, List.getElem?_eq_getElem h1]
  rfl
theorem enumH_ok (h : List Str) : enumC (encH h) S = .ok ((List.range h.length).map fun (k : Nat) => .tup [.int (k : Int), .str (h.getD k "")]) S := by
  show Fd.R.ok (enumD 0 (h.map D.str)) S = _
  rw [list_range, enumD_range]
end
end K01

set_option Elab.async false
set_option linter.all false
set_option maxRecDepth 100000
set_option maxHeartbeats 1000000
namespace K01
open PySem PySem.Spec PyProof.Rows L2 LamX Fd
/-! ### grouped: one name -/
def gz0 : En → M Fl := (setS 10 (lockQ (locV 5) (genE (enumS (getV 5)) [12, 13] (tupG 2 (consG (nameG 12) (consG (nameG 13) nilG))) yesT (tupV (consA (callE (consA (bin2 itemO (getV 0) (getV 9)) (consA (bin2 itemO (getV 0) (getV 13)) nilA)) (arg 2 D_far)) (consA (getV 12) nilA))) chkAll (finSrt false))))
def gz1 : En → M Fl := (ifS (tst1 (bin2 inO (getV 9) (getV 5))) (setS 10 (lstV (consA (tupV (consA (cst (.int 0)) (consA (tmE (getV 5) (consA (getV 9) nilA)) nilA))) nilA))) skip)
def gz2 : En → M Fl := (exprS (bmE "list" (bin2 itemO (getV 7) (bin2 itemO (bin2 itemO (getV 10) (cst (.int 0))) (cst (.int 1)))) (consA (getV 9) nilA) appM))
def gz3 : En → M Fl := (augS 8 addI (bin2 itemO (bin2 itemO (getV 10) (cst (.int 0))) (cst (.int 0))))
theorem L_grouped_b0_eq : L_grouped_b0 = seqS gz0 (seqS gz1 (seqS gz2 gz3)) := rfl
structure Gb (σ0 σ : En) (S0 S : Sto) (ns : List Str) (tab : Str → Tb) (h : List Str) (b : Nat) (done : List Str) : Prop where
  n : σ.length = 15
  kp : ∀ i, i < 7 → σ[i]? = σ0[i]?
  s0 : σ[0]? = some (some (.dct false (pk ns tab)))
  s5 : σ[5]? = some (some (encH h))
  s7 : σ[7]? = some (some (.lst ((List.range h.length).map fun j => .ref (b + j))))
  s8 : σ[8]? = some (some (.int (totL tab h done)))
  o : ∀ j, j < h.length → S.objs[b + j]? = some (.lst ((grpJ tab h done j).map .str))
  st : S.objs[0]? = S0.objs[0]?
  b1 : 1 ≤ b
  lk : S.lck = []
section
variable {S S0 : Sto} {E : Nat → Sto → Prop} {Q : D → Sto → Prop} {σ σ0 : En} {ns h done : List Str} {tab : Str → Tb} {b : Nat}
theorem Gb.lt (g : Gb σ0 σ S0 S ns tab h b done) {i : Nat} (hi : i < 15) : i < σ.length := by rw [g.n]; exact hi
theorem Gb.set (g : Gb σ0 σ S0 S ns tab h b done) {i : Nat} (hi : 8 < i) (v : Option D) : Gb σ0 (σ.set i v) S0 S ns tab h b done :=
  ⟨by rw [List.length_set]; exact g.n, fun j hj => by rw [List.getElem?_set_ne (by omega)]; exact g.kp j hj, by rw [List.getElem?_set_ne (by omega)]; exact g.s0, by rw [List.getElem?_set_ne (by omega)]; exact g.s5, by rw [List.getElem?_set_ne (by omega)]; exact g.s7, by rw [List.getElem?_set_ne (by omega)]; exact g.s8, g.o, g.st, g.b1, g.lk⟩
theorem nolock (h : S.lck = []) (l : Nat) : S.locked l = false := by unfold Sto.locked; rw [h]; rfl
theorem lockH_wp {α : Type} {i : Nat} {f : En → M α} {Q : α → Sto → Prop} (hi : σ[i]? = some (some (encH h))) : wp (lockQ (locV i) f σ) S Q E = wp (f σ) S Q E := by
  have e : lockQ (locV i) f σ S = f σ S := by
    unfold lockQ locV
    rw [hi]
    rfl
  unfold wp
  rw [e]
theorem totL_app (tab : Str → Tb) (h done : List Str) (s : Str) : totL tab h (done ++ [s]) = totL tab h done + (nearK tab h s).1 := by
  unfold totL
  rw [List.map_append, List.sum_append]
  simp
theorem grpJ_app (tab : Str → Tb) (h done : List Str) (s : Str) (j : Nat) : grpJ tab h (done ++ [s]) j = if (nearK tab h s).2 = (j : Int) then grpJ tab h done j ++ [s] else grpJ tab h done j := by
  unfold grpJ
  rw [List.filter_append]
  by_cases e : (nearK tab h s).2 = (j : Int)
  · rw [if_pos e, List.filter_cons, if_pos (decide_eq_true e), List.filter_nil]
  · rw [if_neg e, List.filter_cons, if_neg (by rw [decide_eq_true_eq]; exact e), List.filter_nil, List.append_nil]
theorem gz0_ok (P : Ppl ns tab) (g : Gb σ0 σ S0 S ns tab h b done) {s : Str} (hs : s ∈ ns) (hsub : ∀ x ∈ h, x ∈ ns) (hl : h.length ≤ 6) (h9 : σ[9]? = some (some (.str s))) : gz0 σ S = .ok (.nx (σ.set 10 (some (.lst (srt enc2 py2 (keysN tab h s)))))) S := run_of fun Q E hq => by
  unfold gz0 setS
  rw [wp_bind, lockH_wp g.s5]
  refine genE_wp (fun (k : Nat) => D.tup [.int (k : Int), .str (h.getD k "")]) (List.range h.length) (fun k => some (enc2 (far5 (tab s) (tab (h.getD k "")), (k : Int)))) (run_of fun Q E hq => ?_) (fun k hk => run_of fun Q E hq => ?_) (by rw [List.length_range]; exact Nat.le_trans hl (by decide)) ?_
  · simp only [enumS, getV, g.s5, wp_bind, wp_pure, wp_eq (enumH_ok h)]
    exact hq
  · have hk := List.mem_range.mp hk
    have hh := hsub _ (getD_mem hk)
    obtain ⟨ω, hω⟩ : ∃ ω, ω = ((wipeE σ [12, 13]).set 12 (some (D.int (k : Int)))).set 13 (some (D.str (h.getD k ""))) := ⟨_, rfl⟩
    have w0 : ω[0]? = some (some (.dct false (pk ns tab))) := by
      rw [hω]
      show ((((σ.set 13 none).set 12 none).set 12 _).set 13 _)[0]? = _
      rw [List.getElem?_set_ne (by decide), List.getElem?_set_ne (by decide), List.getElem?_set_ne (by decide), List.getElem?_set_ne (by decide)]
      exact g.s0
    have w9 : ω[9]? = some (some (.str s)) := by
      rw [hω]
      show ((((σ.set 13 none).set 12 none).set 12 _).set 13 _)[9]? = _
      rw [List.getElem?_set_ne (by decide), List.getElem?_set_ne (by decide), List.getElem?_set_ne (by decide), List.getElem?_set_ne (by decide)]
      exact h9
    have w12 : ω[12]? = some (some (.int (k : Int))) := by
      rw [hω, List.getElem?_set_ne (by decide), List.getElem?_set_self (by show 12 < ((σ.set 13 none).set 12 none).length; rw [List.length_set, List.length_set, g.n]; decide)]
    have w13 : ω[13]? = some (some (.str (h.getD k ""))) := by
      rw [hω, List.getElem?_set_self (by show 13 < (((σ.set 13 none).set 12 none).set 12 _).length; rw [List.length_set, List.length_set, List.length_set, g.n]; decide)]
    simp only [bodG, tupG, tupD, consG, nilG, nameG, yesT, wp_bind, wp_pure, wp_ite, List.length_cons, List.length_nil, if_true]
    rw [← hω]
    have i1 : ∀ {Q : D → Sto → Prop} {E : Nat → Sto → Prop}, wp (itemO (.dct false (pk ns tab)) (.str s)) S Q E = Q (tb (tab s)) S := fun {Q E} => itemV_wp (valP P hs)
    have i2 : ∀ {Q : D → Sto → Prop} {E : Nat → Sto → Prop}, wp (itemO (.dct false (pk ns tab)) (.str (h.getD k ""))) S Q E = Q (tb (tab (h.getD k ""))) S := fun {Q E} => itemV_wp (valP P hh)
    simp only [tup2_wp, callE, consA, nilA, bin2, arg, getV, w0, w9, w12, w13, wp_bind, wp_pure, wp_ite, i1, i2, List.length_cons, List.length_nil, show ((0 : Nat) + 1 + 1 = 2) = True from eq_true rfl, if_true, wp_eq (far_ok (S := S) (P.ok s hs) (P.ok _ hh))]
    exact hq
  · rw [filterMap_some]
    have e : (List.range h.length).map (fun (k : Nat) => enc2 (far5 (tab s) (tab (h.getD k "")), (k : Int))) = (keysN tab h s).map enc2 := by
      unfold keysN
      rw [List.map_map]
      rfl
    rw [e, wp_eq (finSrtX_ok srt2 _), wp_pure]
    exact hq
theorem gz1_wp {Q : Fl → Sto → Prop} {s : Str} (g : Gb σ0 σ S0 S ns tab h b done) (hh : h ≠ []) (h9 : σ[9]? = some (some (.str s))) (h10 : σ[10]? = some (some (.lst (srt enc2 py2 (keysN tab h s)))))
    (k : ∀ σ' r, Gb σ0 σ' S0 S ns tab h b done → σ'[9]? = some (some (.str s)) → σ'[10]? = some (some (.lst (enc2 (nearK tab h s) :: r))) → Q (.nx σ') S) : wp (gz1 σ) S Q E := by
  unfold gz1
  simp only [ifS, tst1, bin2, getV, h9, g.s5, wp_bind, wp_pure, wp_eq (inF_ok h s), wp_asB, wp_ite, decide_eq_true_eq]
  by_cases hm : s ∈ h
  · rw [if_pos hm]
    have e := tind_ok (S := S) hm g.s5 h9
    simp only [setS, wp_bind, lst1_wp, tup2_wp, cst, wp_pure, wp_eq e]
    have en : D.tup [.int 0, .int (idxS h s : Int)] = enc2 (nearK tab h s) := by unfold nearK; rw [if_pos hm]; rfl
    rw [en]
    exact k _ [] (g.set (by decide) _) (by rw [List.getElem?_set_ne (by decide)]; exact h9) (List.getElem?_set_self (g.lt (by decide)))
  · rw [if_neg hm]
    obtain ⟨r, e, _⟩ := near_srt (tab := tab) hh hm
    rw [e] at h10
    exact k σ r g h9 h10
theorem gb0_wp {Q : Fl → Sto → Prop} {s : Str} (P : Ppl ns tab) (g : Gb σ0 σ S0 S ns tab h b done) (hs : s ∈ ns) (hh : h ≠ []) (hsub : ∀ x ∈ h, x ∈ ns) (hl : h.length ≤ 6) (hd : done.length ≤ 6) (h9 : σ[9]? = some (some (.str s)))
    (k : ∀ σ' S', Gb σ0 σ' S0 S' ns tab h b (done ++ [s]) → Q (.nx σ') S') : wp (L_grouped_b0 σ) S Q E := by
  rw [L_grouped_b0_eq]
  simp only [seqS, wp_bind, wp_eq (gz0_ok P g hs hsub hl h9)]
  refine gz1_wp (g.set (i := 10) (by decide) _) hh (by rw [List.getElem?_set_ne (by decide)]; exact h9) (List.getElem?_set_self (g.lt (by decide))) fun σ1 r g1 k9 k10 => ?_
  obtain ⟨t0, t1, j, hj, hjl⟩ := near_bd P (tab := tab) hh hs hsub
  have i0 : ∀ {S : Sto} {Q : D → Sto → Prop} {E : Nat → Sto → Prop}, wp (itemO (enc2 (nearK tab h s)) (.int 0)) S Q E = Q (.int (nearK tab h s).1) S := fun {S Q E} => ix0_wp _ _
  have i1 : ∀ {S : Sto} {Q : D → Sto → Prop} {E : Nat → Sto → Prop}, wp (itemO (enc2 (nearK tab h s)) (.int 1)) S Q E = Q (.int (j : Int)) S := fun {S Q E} => by rw [← hj]; exact ix1_wp _ _
  have i7 : itemO (.lst ((List.range h.length).map fun j => D.ref (b + j))) (.int (j : Int)) S = .ok (.ref (b + j)) S := ixL_ok (by rw [List.getElem?_map, List.getElem?_range hjl]; rfl)
  have oj := g1.o j hjl
  have uj := nolock g1.lk (b + j)
  have hz : ((grpJ tab h done j).map D.str).length < sizeLine := by
    rw [List.length_map]
    have h1 : (grpJ tab h done j).length ≤ done.length := List.length_filter_le _ _
    have h2 : 6 < sizeLine := by decide
    omega
  have e2 : gz2 σ1 S = .ok (.nx σ1) (S.put (b + j) (.lst ((grpJ tab h done j ++ [s]).map .str))) := run_of fun Q E hq => by
    unfold gz2
    simp only [exprS, bmE, bin2, getV, g1.s7, k10, cst, wp_bind, wp_pure, ixL0_wp, i1, wp_eq i7, chkL_wp oj uj, consA, nilA, k9, app_wp oj uj hz]
    rw [List.map_append] at hq
    exact hq
  simp only [wp_bind, wp_eq e2]
  have e3 : gz3 σ1 (S.put (b + j) (.lst ((grpJ tab h done j ++ [s]).map .str))) = .ok (.nx (σ1.set 8 (some (.int (totL tab h (done ++ [s])))))) (S.put (b + j) (.lst ((grpJ tab h done j ++ [s]).map .str))) := run_of fun Q E hq => by
    unfold gz3
    simp only [augS, bin2, getV, g1.s8, k10, cst, wp_bind, wp_pure, ixL0_wp, i0, wp_addI]
    rw [totL_app] at hq
    exact hq
  show wp (gz3 σ1) _ Q E
  rw [wp_eq e3]
  refine k _ _ ⟨by rw [List.length_set]; exact g1.n, fun i hi => by rw [List.getElem?_set_ne (by omega)]; exact g1.kp i hi, by rw [List.getElem?_set_ne (by decide)]; exact g1.s0, by rw [List.getElem?_set_ne (by decide)]; exact g1.s5, by rw [List.getElem?_set_ne (by decide)]; exact g1.s7, List.getElem?_set_self (g1.lt (by decide)), fun i hi => ?_, ?_, g1.b1, g1.lk⟩
  · rw [grpJ_app, hj]
    by_cases e : j = i
    · subst e
      rw [put_at (lt_of_get oj), if_pos rfl]
    · rw [put_ne (by omega), if_neg (by omega)]
      exact g1.o i hi
  · rw [put_ne (by have := g1.b1; omega)]
    exact g1.st
end
end K01

set_option Elab.async false
set_option linter.all false
set_option maxRecDepth 100000
set_option maxHeartbeats 1000000
namespace K01
open PySem PySem.Spec PyProof.Rows L2 LamX Fd
/-! ### grouped: a leaf -/
def gx0 : En → M Fl := (lockQ (locV 5) (setS 7 (genE (itSeq (getV 5)) [13] (nameG 13) yesT (lstO nilA) chkAll finLst)))
def gx1 : En → M Fl := (setS 8 (cst (.int 0)))
def gx2 : En → M Fl := (lockQ (locV 2) (forS (itSeq (getV 2)) (nameG 9) L_grouped_b0))
def gx3 : En → M Fl := (setS 11 (tupV (consA (getV 8) (consA (getV 5) (consA (lockQ (locV 7) (genE (itSeq (getV 7)) [14] (nameG 14) yesT (callE (consA (getV 14) nilA) tupC) chkAll finTup)) nilA)))))
def gx4 : En → M Fl := (setS 3 (ifV (orT (tst1 (bin2 isN (getV 3) (cst .non))) (tst1 (bin2 ltA (getV 11) (getV 3)))) (getV 11) (getV 3)))
def gx5 : En → M Fl := (fun σ => M.pure (Fl.ct σ))
def gLeaf : En → M Fl := seqS gx0 (seqS gx1 (seqS gx2 (seqS gx3 (seqS gx4 gx5))))
def gy0 : En → M Fl := (asgS (bmE "list" (getV 4) nilA popM) (tupG 2 (consG (nameG 5) (consG (nameG 6) nilG))))
def gy1t : En → M Bool := (tst1 (bin2 eqA (callE (consA (getV 5) nilA) lenC) (getV 1)))
def gy2 : En → M Fl := (forS (rngA (consA (getV 6) (consA (callE (consA (getV 2) nilA) lenC) nilA))) (nameG 12) L_grouped_b1)
theorem L_grouped_b2_eq : L_grouped_b2 = seqS gy0 (seqS (ifS gy1t gLeaf skip) gy2) := rfl
def encN (w : List Str × Nat) : D := .tup [encH w.1, .int (w.2 : Int)]
def encB (tab : Str → Tb) (ns : List Str) : Option (List Str) → D
  | none => .non
  | some h => encR tab ns h
structure Sd (σ : En) (S : Sto) (ns : List Str) (tab : Str → Tb) (many : Nat) (st : List (List Str × Nat)) (best : Option (List Str)) : Prop where
  n : σ.length = 15
  s0 : σ[0]? = some (some (.dct false (pk ns tab)))
  s1 : σ[1]? = some (some (.int (many : Int)))
  s2 : σ[2]? = some (some (.lst (ns.map .str)))
  s3 : σ[3]? = some (some (encB tab ns best))
  s4 : σ[4]? = some (some (.ref 0))
  o : S.objs[0]? = some (.lst (st.map encN))
  lk : S.lck = []
section
variable {S S0 : Sto} {E : Nat → Sto → Prop} {Q : D → Sto → Prop} {σ σ0 : En} {ns h done : List Str} {tab : Str → Tb} {b many : Nat} {st : List (List Str × Nat)} {best : Option (List Str)}
theorem Sd.lt (g : Sd σ S ns tab many st best) {i : Nat} (hi : i < 15) : i < σ.length := by rw [g.n]; exact hi
theorem Sd.set (g : Sd σ S ns tab many st best) {i : Nat} (hi : 4 < i) (v : Option D) : Sd (σ.set i v) S ns tab many st best :=
  ⟨by rw [List.length_set]; exact g.n, by rw [List.getElem?_set_ne (by omega)]; exact g.s0, by rw [List.getElem?_set_ne (by omega)]; exact g.s1, by rw [List.getElem?_set_ne (by omega)]; exact g.s2, by rw [List.getElem?_set_ne (by omega)]; exact g.s3, by rw [List.getElem?_set_ne (by omega)]; exact g.s4, g.o, g.lk⟩
theorem rowsE_ok {j : Nat} (h5 : σ[5]? = some (some (encH h))) (hl : h.length ≤ 6) : genE (itSeq (getV 5)) [13] (nameG 13) yesT (lstO nilA) chkAll finLst σ S = .ok (.lst ((List.range h.length).map fun j => .ref (S.n + j))) ⟨S.objs ++ List.replicate h.length (.lst []), S.lck⟩ := run_of fun Q E hq => by
  unfold genE
  have hit : ∀ {Q : List D → Sto → Prop} {E : Nat → Sto → Prop}, wp (itSeq (getV 5) σ) S Q E = Q (h.map .str) S := fun {Q E} => by
    simp only [itSeq, getV, h5, wp_bind, wp_pure]
    exact wp_eq rfl
  rw [wp_bind, hit]
  refine wp_genL (fun ys ds S' => ∃ i, i + ds.length = h.length ∧ ys = (List.range i).map (fun j => D.ref (S.n + j)) ∧ S' = ⟨S.objs ++ List.replicate i (.lst []), S.lck⟩) (fun ys d ds S' h' => ?_) (fun ys S' h' => ?_) _ _ _ ⟨0, by rw [List.length_map, Nat.zero_add], rfl, by simp⟩
  · obtain ⟨i, h1, rfl, rfl⟩ := h'
    rw [List.length_cons] at h1
    simp only [bodG, nameG, yesT, lstO, nilA, wp_bind, wp_pure, wp_ite, if_true, List.length_nil, show ((0 : Nat) ≤ sizeLine) = True from eq_true (Nat.zero_le _), newL_wp]
    have hn : (⟨S.objs ++ List.replicate i (.lst []), S.lck⟩ : Sto).n = S.n + i := by
      show (S.objs ++ List.replicate i (SO.lst [])).length = S.objs.length + i
      rw [List.length_append, List.length_replicate]
    rw [hn]
    have hc : chkAll ((List.range i).map fun j => D.ref (S.n + j)) (.ref (S.n + i)) = some none := if_pos (by
      rw [List.length_map, List.length_range]
      have : 6 < sizeLine := by decide
      omega)
    simp only [hc]
    refine ⟨i + 1, by omega, by rw [List.range_succ, List.map_append]; rfl, ?_⟩
    show (⟨(S.objs ++ List.replicate i (SO.lst [])) ++ [SO.lst []], S.lck⟩ : Sto) = _
    rw [List.append_assoc, List.replicate_succ']
  · obtain ⟨i, h1, rfl, rfl⟩ := h'
    have : i = h.length := by simpa using h1
    subst this
    exact hq
theorem gx2_wp {Q : Fl → Sto → Prop} (P : Ppl ns tab) (hh : h ≠ []) (hsub : ∀ x ∈ h, x ∈ ns) (hl : h.length ≤ 6) (g : Gb σ0 σ S0 S ns tab h b []) (s2 : σ[2]? = some (some (.lst (ns.map .str)))) (k : ∀ σ' S', Gb σ0 σ' S0 S' ns tab h b ns → Q (.nx σ') S') : wp (gx2 σ) S Q E := by
  have hit : ∀ {Q : List D → Sto → Prop} {E : Nat → Sto → Prop}, wp (itSeq (getV 2) σ) S Q E = Q (ns.map .str) S := fun {Q E} => by
    simp only [itSeq, getV, s2, wp_bind, wp_pure]
    exact wp_eq rfl
  unfold gx2
  rw [lockL_wp s2]
  unfold forS
  rw [wp_bind, hit]
  refine wp_loop (fun ds σ S => ∃ done todo, ns = done ++ todo ∧ ds = todo.map D.str ∧ Gb σ0 σ S0 S ns tab h b done) (fun d ds σ S h' => ?_) (fun σ S h' => ?_) _ _ _ ⟨[], ns, rfl, rfl, g⟩
  · obtain ⟨done, todo, h1, h2, h3⟩ := h'
    match todo, h1, h2 with
    | m :: todo, h1, h2 =>
      rw [List.map_cons] at h2
      injection h2 with h4 h5
      subst h4 h5
      have hlen := congrArg List.length h1
      rw [List.length_append, List.length_cons] at hlen
      have l6 := P.l6
      simp only [nameG, wp_pure]
      refine gb0_wp P (h3.set (i := 9) (by decide) _) (by rw [h1]; exact List.mem_append_right _ List.mem_cons_self) hh hsub hl (by omega) (List.getElem?_set_self (h3.lt (by decide))) fun σ' S' g' => ?_
      exact ⟨done ++ [m], todo, by rw [h1, List.append_assoc]; rfl, rfl, g'⟩
  · obtain ⟨done, todo, h1, h2, h3⟩ := h'
    have : todo = [] := List.map_eq_nil_iff.mp h2.symm
    subst this
    rw [List.append_nil] at h1
    subst h1
    exact k σ S h3
theorem gx3_ok (hl : h.length ≤ 6) (g : Gb σ0 σ S0 S ns tab h b ns) : gx3 σ S = .ok (.nx (σ.set 11 (some (encR tab ns h)))) S := run_of fun Q E hq => by
  have ge : genE (itSeq (getV 7)) [14] (nameG 14) yesT (callE (consA (getV 14) nilA) tupC) chkAll finTup σ S = .ok (.tup ((grpL tab h ns).map fun r => .tup (r.map .str))) S := run_of fun Q E hq => by
    refine genE_wp (fun j => D.ref (b + j)) (List.range h.length) (fun j => some (.tup ((grpJ tab h ns j).map .str))) (run_of fun Q E hq => ?_) (fun j hj => run_of fun Q E hq => ?_) (by rw [List.length_range]; exact Nat.le_trans hl (by decide)) ?_
    · simp only [itSeq, getV, g.s7, wp_bind, wp_pure, itemsL_wp]
      exact hq
    · have oj := g.o j (List.mem_range.mp hj)
      have e : tupC [.ref (b + j)] S = .ok (.tup ((grpJ tab h ns j).map .str)) S := by
        have e1 : seqL S (.ref (b + j)) = some ((grpJ tab h ns j).map .str) := by unfold seqL; simp only [oj]
        show (match seqL S (.ref (b + j)) with
          | some xs => Fd.R.ok (D.tup xs) S
          | none => .stk) = _
        rw [e1]
      have k14 : (((wipeE σ [14]).set 14 (some (D.ref (b + j)))))[14]? = some (some (.ref (b + j))) := List.getElem?_set_self (by show 14 < (σ.set 14 none).length; rw [List.length_set, g.n]; decide)
      simp only [bodG, nameG, yesT, wp_bind, wp_pure, wp_ite, if_true, call1_wp, getV, k14, wp_eq e]
      exact hq
    · rw [filterMap_some]
      have e : (List.range h.length).map (fun j => D.tup ((grpJ tab h ns j).map .str)) = (grpL tab h ns).map fun r => .tup (r.map .str) := by
        unfold grpL
        rw [List.map_map]
        rfl
      rw [e]
      exact hq
  unfold gx3 setS
  rw [wp_bind, tup3_wp]
  simp only [getV, g.s8, g.s5, wp_pure]
  rw [lockL_wp g.s7, wp_eq ge]
  exact hq
def bet (tab : Str → Tb) (ns : List Str) (best : Option (List Str)) (h : List Str) : List Str := match best with
  | none => h
  | some b => if PySem.W.dataLt (pyR tab ns h) (pyR tab ns b) = true then h else b
theorem gx4_ok (h3 : σ[3]? = some (some (encB tab ns best))) (h11 : σ[11]? = some (some (encR tab ns h))) : gx4 σ S = .ok (.nx (σ.set 3 (some (encR tab ns (bet tab ns best h))))) S := run_of fun Q E hq => by
  unfold gx4
  simp only [setS, ifV, orT, tst1, bin2, getV, cst, h3, h11, wp_bind, wp_pure, wp_ite]
  cases best with
  | none =>
    have e : ∀ {Q : D → Sto → Prop} {E : Nat → Sto → Prop}, wp (isN (encB tab ns none) .non) S Q E = Q (.bl true) S := fun {Q E} => wp_eq rfl
    simp only [e, wp_asB, if_true, wp_pure]
    exact hq
  | some b =>
    have e : ∀ {Q : D → Sto → Prop} {E : Nat → Sto → Prop}, wp (isN (encB tab ns (some b)) .non) S Q E = Q (.bl false) S := fun {Q E} => wp_eq rfl
    have e2 : ltA (encR tab ns h) (encB tab ns (some b)) S = .ok (.bl (PySem.W.dataLt (pyR tab ns h) (pyR tab ns b))) S := ltX_ok (srtR tab ns) (fun _ => rfl) h b
    simp only [e, wp_eq e2, wp_asB, Bool.false_eq_true, if_false]
    unfold bet at hq
    simp only at hq
    by_cases c : PySem.W.dataLt (pyR tab ns h) (pyR tab ns b) = true
    · rw [if_pos c] at hq ⊢
      exact hq
    · rw [if_neg c] at hq ⊢
      exact hq
theorem leaf_wp {Q : Fl → Sto → Prop} (P : Ppl ns tab) (g : Sd σ S ns tab many st best) (h5 : σ[5]? = some (some (encH h))) (hh : h ≠ []) (hsub : ∀ x ∈ h, x ∈ ns) (hl : h.length ≤ 6) (k : ∀ σ' S', Sd σ' S' ns tab many st (some (bet tab ns best h)) → Q (.ct σ') S') : wp (gLeaf σ) S Q E := by
  have hn : 0 < S.n := lt_of_get g.o
  unfold gLeaf
  have e0 : gx0 σ S = .ok (.nx (σ.set 7 (some (.lst ((List.range h.length).map fun j => .ref (S.n + j)))))) ⟨S.objs ++ List.replicate h.length (.lst []), S.lck⟩ := run_of fun Q E hq => by
    unfold gx0
    rw [lockH_wp h5]
    unfold setS
    rw [wp_bind, wp_eq (rowsE_ok (j := 0) h5 hl)]
    exact hq
  simp only [seqS, wp_bind, wp_eq e0]
  have e1 : ∀ (τ : En) (S1 : Sto), gx1 τ S1 = .ok (.nx (τ.set 8 (some (.int 0)))) S1 := fun τ S1 => rfl
  simp only [wp_eq (e1 _ _)]
  obtain ⟨S1, hS1⟩ : ∃ S1, S1 = (⟨S.objs ++ List.replicate h.length (.lst []), S.lck⟩ : Sto) := ⟨_, rfl⟩
  rw [← hS1]
  have g1 : Sd σ S1 ns tab many st best := ⟨g.n, g.s0, g.s1, g.s2, g.s3, g.s4, by rw [hS1]; show (S.objs ++ _)[0]? = _; rw [List.getElem?_append_left hn]; exact g.o, by rw [hS1]; exact g.lk⟩
  obtain ⟨τ, hτ⟩ : ∃ τ, τ = (σ.set 7 (some (D.lst ((List.range h.length).map fun j => .ref (S.n + j))))).set 8 (some (.int 0)) := ⟨_, rfl⟩
  rw [← hτ]
  have g2 : Sd τ S1 ns tab many st best := by rw [hτ]; exact (g1.set (by decide) _).set (by decide) _
  have gb : Gb τ τ S1 S1 ns tab h S.n [] := by
    refine ⟨g2.n, fun _ _ => rfl, g2.s0, ?_, ?_, ?_, fun j hj => ?_, rfl, hn, g2.lk⟩
    · rw [hτ, List.getElem?_set_ne (by decide), List.getElem?_set_ne (by decide)]; exact h5
    · rw [hτ, List.getElem?_set_ne (by decide), List.getElem?_set_self (g.lt (by decide))]
    · rw [hτ, List.getElem?_set_self (by rw [List.length_set]; exact g.lt (by decide))]; rfl
    · rw [hS1]
      show (S.objs ++ List.replicate h.length (SO.lst []))[S.objs.length + j]? = _
      rw [List.getElem?_append_right (by omega), Nat.add_sub_cancel_left, List.getElem?_replicate, if_pos hj]
      rfl
  rw [wp_bind]
  refine gx2_wp P hh hsub hl gb g2.s2 fun σ' S' g' => ?_
  simp only [wp_bind, wp_eq (gx3_ok hl g')]
  have k3 : (σ'.set 11 (some (encR tab ns h)))[3]? = some (some (encB tab ns best)) := by rw [List.getElem?_set_ne (by decide), g'.kp 3 (by decide)]; exact g2.s3
  have k11 : (σ'.set 11 (some (encR tab ns h)))[11]? = some (some (encR tab ns h)) := List.getElem?_set_self (g'.lt (by decide))
  simp only [wp_eq (gx4_ok (S := S') k3 k11)]
  show wp (gx5 _) S' Q E
  unfold gx5
  rw [wp_pure]
  have ln : (σ'.set 11 (some (encR tab ns h))).length = 15 := by rw [List.length_set]; exact g'.n
  have q : ∀ i, i < 7 → i ≠ 3 → ((σ'.set 11 (some (encR tab ns h))).set 3 (some (encR tab ns (bet tab ns best h))))[i]? = τ[i]? := fun i hi h3 => by
    rw [List.getElem?_set_ne (by omega), List.getElem?_set_ne (by omega), g'.kp i hi]
  refine k _ _ ⟨by rw [List.length_set]; exact ln, by rw [q 0 (by decide) (by decide)]; exact g2.s0, by rw [q 1 (by decide) (by decide)]; exact g2.s1, by rw [q 2 (by decide) (by decide)]; exact g2.s2, List.getElem?_set_self (by rw [ln]; decide), by rw [q 4 (by decide) (by decide)]; exact g2.s4, by rw [g'.st]; exact g2.o, g'.lk⟩
end
end K01

set_option Elab.async false
set_option linter.all false
set_option maxRecDepth 100000
set_option maxHeartbeats 1000000
namespace K01
open PySem PySem.Spec PyProof.Rows L2 LamX Fd
/-! ### the tree of heads -/
abbrev Nd := List Str × Nat
def kid (ns : List Str) (w : Nd) (k : Nat) : Nd := (w.1 ++ [ns.getD (w.2 + k) ""], w.2 + k + 1)
def kids (ns : List Str) (w : Nd) : List Nd := (List.range (ns.length - w.2)).map (kid ns w)
def lv (ns : List Str) (many : Nat) (w : Nd) : List (List Str) := (cmb (ns.drop w.2) (many - w.1.length)).map (w.1 ++ ·)
def msz (ns : List Str) (w : Nd) : Nat := 2 ^ (ns.length - w.2)
def msr (ns : List Str) (st : List Nd) : Nat := (st.map (msz ns)).sum
theorem cmb_drop (ns : List Str) (k : Nat) (x : List Str) : ∀ m i, ns.length - i = m → i ≤ ns.length → (x ∈ cmb (ns.drop i) (k + 1) ↔ ∃ p, p < ns.length - i ∧ ∃ r ∈ cmb (ns.drop (i + p + 1)) k, x = ns.getD (i + p) "" :: r)
  | 0, i, hm, hi => by
    have : i = ns.length := by omega
    subst this
    rw [List.drop_length, cmb_nil]
    constructor
    · intro h; cases h
    · rintro ⟨p, hp, _⟩
      omega
  | m + 1, i, hm, hi => by
    have hi' : i < ns.length := by omega
    rw [List.drop_eq_getElem_cons hi', cmb_cons, List.mem_append, cmb_drop ns k x m (i + 1) (by omega) (by omega)]
    have g0 : ns.getD i "" = ns[i] := by rw [List.getD_eq_getElem?_getD, List.getElem?_eq_getElem hi']; rfl
    constructor
    · rintro (h | ⟨p, hp, r, hr, e⟩)
      · obtain ⟨r, hr, e⟩ := List.mem_map.mp h
        exact ⟨0, by omega, r, hr, by rw [Nat.add_zero, g0, ← e]⟩
      · exact ⟨p + 1, by omega, r, by rw [show i + (p + 1) + 1 = i + 1 + p + 1 by omega]; exact hr, by rw [show i + (p + 1) = i + 1 + p by omega]; exact e⟩
    · rintro ⟨p, hp, r, hr, e⟩
      cases p with
      | zero =>
        refine .inl (List.mem_map.mpr ⟨r, hr, ?_⟩)
        rw [e, Nat.add_zero, g0]
      | succ p => exact .inr ⟨p, by omega, r, by rw [show i + 1 + p + 1 = i + (p + 1) + 1 by omega]; exact hr, by rw [show i + 1 + p = i + (p + 1) by omega]; exact e⟩
theorem lv_kids {ns : List Str} {many : Nat} {w : Nd} (h1 : w.1.length < many) (h2 : w.2 ≤ ns.length) (x : List Str) : x ∈ lv ns many w ↔ ∃ c ∈ kids ns w, x ∈ lv ns many c := by
  obtain ⟨k, hk⟩ : ∃ k, many - w.1.length = k + 1 := ⟨many - w.1.length - 1, by omega⟩
  unfold lv kids
  rw [hk]
  constructor
  · intro h
    obtain ⟨y, hy, rfl⟩ := List.mem_map.mp h
    obtain ⟨p, hp, r, hr, rfl⟩ := (cmb_drop ns k y _ w.2 rfl h2).mp hy
    refine ⟨kid ns w p, List.mem_map.mpr ⟨p, List.mem_range.mpr hp, rfl⟩, List.mem_map.mpr ⟨r, ?_, ?_⟩⟩
    · unfold kid
      simp only [List.length_append, List.length_singleton]
      rw [show many - (w.1.length + 1) = k by omega]
      exact hr
    · unfold kid
      simp only [List.append_assoc]
      rfl
  · rintro ⟨c, hc, hx⟩
    obtain ⟨p, hp, rfl⟩ := List.mem_map.mp hc
    have hp := List.mem_range.mp hp
    obtain ⟨r, hr, rfl⟩ := List.mem_map.mp hx
    unfold kid at hr ⊢
    simp only [List.length_append, List.length_singleton] at hr
    rw [show many - (w.1.length + 1) = k by omega] at hr
    refine List.mem_map.mpr ⟨ns.getD (w.2 + p) "" :: r, (cmb_drop ns k _ _ w.2 rfl h2).mpr ⟨p, hp, r, hr, rfl⟩, ?_⟩
    simp only [List.append_assoc]
    rfl
theorem pow_sum : ∀ m, ((List.range m).map fun k => 2 ^ (m - (k + 1))).sum + 1 = 2 ^ m
  | 0 => rfl
  | m + 1 => by
    rw [List.range_succ_eq_map, List.map_cons, List.sum_cons, List.map_map]
    have e : (List.range m).map ((fun k => 2 ^ (m + 1 - (k + 1))) ∘ Nat.succ) = (List.range m).map fun k => 2 ^ (m - (k + 1)) := List.map_congr_left fun k _ => by
      show 2 ^ (m + 1 - (k + 1 + 1)) = _
      rw [show m + 1 - (k + 1 + 1) = m - (k + 1) by omega]
    rw [e]
    have := pow_sum m
    have h1 : m + 1 - (0 + 1) = m := by omega
    rw [h1, Nat.pow_succ]
    omega
theorem msr_kids (ns : List Str) (w : Nd) : msr ns (kids ns w) + 1 = msz ns w := by
  unfold msr kids msz
  rw [List.map_map, ← pow_sum]
  congr 2
  refine List.map_congr_left fun k _ => ?_
  show 2 ^ (ns.length - (w.2 + k + 1)) = _
  rw [show ns.length - (w.2 + k + 1) = ns.length - w.2 - (k + 1) by omega]
theorem msr_app (ns : List Str) (a b : List Nd) : msr ns (a ++ b) = msr ns a + msr ns b := by
  unfold msr
  rw [List.map_append, List.sum_append]
theorem msz_pos (ns : List Str) (w : Nd) : 1 ≤ msz ns w := Nat.one_le_two_pow
theorem len_msr (ns : List Str) : ∀ st : List Nd, st.length ≤ msr ns st
  | [] => Nat.zero_le _
  | w :: st => by
    have := len_msr ns st
    have h := msz_pos ns w
    unfold msr at *
    rw [List.map_cons, List.sum_cons, List.length_cons]
    omega
/-- what has been seen, what is left, the best so far -/
structure Bt (ns : List Str) (tab : Str → Tb) (many : Nat) (st : List Nd) (best : Option (List Str)) (seen : List (List Str)) : Prop where
  all : ∀ x, x ∈ cmb ns many ↔ x ∈ seen ∨ ∃ w ∈ st, x ∈ lv ns many w
  ok : ∀ w ∈ st, w.1.length ≤ many ∧ w.2 ≤ ns.length ∧ ∀ y ∈ w.1, y ∈ ns
  best : match best with
    | none => seen = []
    | some b => LeastP (pyR tab ns) b seen
theorem dl_irr (a : PyData) : PySem.W.dataLt a a = false := PyProof.Rows.lex_irrefl (O := PyProof.Rows.itemOrd) _
theorem dl_ng (a b c : PyData) (h : PySem.W.dataLt a c = true) : PySem.W.dataLt a b = true ∨ PySem.W.dataLt b c = true := PyProof.Rows.lex_negTrans (O := PyProof.Rows.itemOrd) _ _ _ h
theorem bet_least {tab : Str → Tb} {ns : List Str} {best : Option (List Str)} {seen : List (List Str)} (h : match best with
    | none => seen = []
    | some b => LeastP (pyR tab ns) b seen) (x : List Str) : LeastP (pyR tab ns) (bet tab ns best x) (seen ++ [x]) := by
  cases best with
  | none =>
    have h : seen = [] := h
    subst h
    exact ⟨List.mem_singleton.mpr rfl, fun y hy => by rw [List.nil_append, List.mem_singleton] at hy; subst hy; exact dl_irr _⟩
  | some b =>
    have h : LeastP (pyR tab ns) b seen := h
    unfold bet
    simp only
    by_cases c : PySem.W.dataLt (pyR tab ns x) (pyR tab ns b) = true
    · rw [if_pos c]
      refine ⟨List.mem_append_right _ (List.mem_singleton.mpr rfl), fun y hy => ?_⟩
      rcases List.mem_append.mp hy with hy | hy
      · cases e : PySem.W.dataLt (pyR tab ns y) (pyR tab ns x) with
        | false => rfl
        | true =>
          have := PyProof.Rows.lex_trans (O := PyProof.Rows.itemOrd) _ _ _ e c
          have z : PySem.W.dataLt (pyR tab ns y) (pyR tab ns b) = true := this
          rw [h.2 y hy] at z
          cases z
      · rw [List.mem_singleton] at hy
        subst hy
        exact dl_irr _
    · rw [if_neg c]
      refine ⟨List.mem_append_left _ h.1, fun y hy => ?_⟩
      rcases List.mem_append.mp hy with hy | hy
      · exact h.2 y hy
      · rw [List.mem_singleton] at hy
        subst hy
        simpa using c
theorem Bt.leaf {ns : List Str} {tab : Str → Tb} {many : Nat} {st : List Nd} {w : Nd} {best : Option (List Str)} {seen : List (List Str)} (B : Bt ns tab many (st ++ [w]) best seen) (hw : w.1.length = many) : Bt ns tab many st (some (bet tab ns best w.1)) (seen ++ [w.1]) := by
  have hlv : lv ns many w = [w.1] := by
    unfold lv
    rw [hw, Nat.sub_self, cmb_zero]
    simp
  refine ⟨fun x => ?_, fun v hv => B.ok v (List.mem_append_left _ hv), bet_least B.best w.1⟩
  rw [B.all x, List.mem_append, List.mem_singleton]
  constructor
  · rintro (h | ⟨v, hv, hx⟩)
    · exact .inl (.inl h)
    · rcases List.mem_append.mp hv with hv | hv
      · exact .inr ⟨v, hv, hx⟩
      · rw [List.mem_singleton] at hv
        subst hv
        rw [hlv, List.mem_singleton] at hx
        exact .inl (.inr hx)
  · rintro ((h | h) | ⟨v, hv, hx⟩)
    · exact .inl h
    · exact .inr ⟨w, List.mem_append_right _ (List.mem_singleton.mpr rfl), by rw [hlv, List.mem_singleton]; exact h⟩
    · exact .inr ⟨v, List.mem_append_left _ hv, hx⟩
theorem Bt.node {ns : List Str} {tab : Str → Tb} {many : Nat} {st : List Nd} {w : Nd} {best : Option (List Str)} {seen : List (List Str)} (B : Bt ns tab many (st ++ [w]) best seen) (hw : w.1.length < many) : Bt ns tab many (st ++ kids ns w) best seen := by
  have hw2 := B.ok w (List.mem_append_right _ (List.mem_singleton.mpr rfl))
  refine ⟨fun x => ?_, fun v hv => ?_, B.best⟩
  · rw [B.all x]
    constructor
    · rintro (h | ⟨v, hv, hx⟩)
      · exact .inl h
      · rcases List.mem_append.mp hv with hv | hv
        · exact .inr ⟨v, List.mem_append_left _ hv, hx⟩
        · rw [List.mem_singleton] at hv
          subst hv
          obtain ⟨c, hc, hx⟩ := (lv_kids hw hw2.2.1 x).mp hx
          exact .inr ⟨c, List.mem_append_right _ hc, hx⟩
    · rintro (h | ⟨v, hv, hx⟩)
      · exact .inl h
      · rcases List.mem_append.mp hv with hv | hv
        · exact .inr ⟨v, List.mem_append_left _ hv, hx⟩
        · exact .inr ⟨w, List.mem_append_right _ (List.mem_singleton.mpr rfl), (lv_kids hw hw2.2.1 x).mpr ⟨v, hv, hx⟩⟩
  · rcases List.mem_append.mp hv with hv | hv
    · exact B.ok v (List.mem_append_left _ hv)
    · unfold kids at hv
      obtain ⟨p, hp, rfl⟩ := List.mem_map.mp hv
      have hp := List.mem_range.mp hp
      unfold kid
      simp only [List.length_append, List.length_singleton]
      refine ⟨by omega, by omega, fun y hy => ?_⟩
      rcases List.mem_append.mp hy with hy | hy
      · exact hw2.2.2 y hy
      · rw [List.mem_singleton] at hy
        subst hy
        exact getD_mem (by omega)
section
variable {S S0 : Sto} {E : Nat → Sto → Prop} {Q : D → Sto → Prop} {σ σ0 : En} {ns h done : List Str} {tab : Str → Tb} {b many : Nat} {st : List Nd} {best : Option (List Str)}
/-! ### a node -/
theorem Sd.put (g : Sd σ S ns tab many st best) (st' : List Nd) : Sd σ (S.put 0 (.lst (st'.map encN))) ns tab many st' best := ⟨g.n, g.s0, g.s1, g.s2, g.s3, g.s4, put_at (lt_of_get g.o), g.lk⟩
theorem gb1_wp {Q : Fl → Sto → Prop} {w : Nd} {k : Nat} (g : Sd σ S ns tab many st best) (h5 : σ[5]? = some (some (encH w.1))) (h12 : σ[12]? = some (some (.int ((w.2 + k : Nat) : Int)))) (hk : w.2 + k < ns.length) (hl : w.1.length ≤ 100) (hz : st.length ≤ 1000)
    (q : Q (.nx σ) (S.put 0 (.lst ((st ++ [kid ns w k]).map encN)))) : wp (L_grouped_b1 σ) S Q E := by
  have i2 : itemO (.lst (ns.map D.str)) (.int ((w.2 + k : Nat) : Int)) S = .ok (.str (ns.getD (w.2 + k) "")) S := ixL_ok (by
    rw [List.getElem?_map, List.getElem?_eq_getElem hk, List.getD_eq_getElem?_getD, List.getElem?_eq_getElem hk]
    rfl)
  have t1 : tupF (consA (bin2 itemO (getV 2) (getV 12)) nilA) σ S = .ok (.ft [.str (ns.getD (w.2 + k) "")]) S := tupF1_ok (run_of fun Q E hq => by
    simp only [bin2, getV, g.s2, h12, wp_bind, wp_pure, wp_eq i2]
    exact hq)
  have t2 : addF (encH w.1) (.ft [.str (ns.getD (w.2 + k) "")]) S = .ok (encH (w.1 ++ [ns.getD (w.2 + k) ""])) S := by
    have zz : 101 ≤ sizeLine := by decide
    rw [show addF (encH w.1) (.ft [.str (ns.getD (w.2 + k) "")]) S = _ from addF_ok (by rw [List.length_map, List.length_singleton]; omega)]
    unfold encH
    rw [List.map_append]
    rfl
  have hz2 : (st.map encN).length < sizeLine := by
    rw [List.length_map]
    exact Nat.lt_of_le_of_lt hz (by decide)
  unfold L_grouped_b1
  have e1 : (bin2 addF (getV 5) (tupF (consA (bin2 itemO (getV 2) (getV 12)) nilA))) σ S = .ok (encH (w.1 ++ [ns.getD (w.2 + k) ""])) S := run_of fun Q E hq => by
    show wp (getV 5 σ >>= fun x => tupF _ σ >>= fun y => addF x y) S Q E
    rw [wp_bind]
    simp only [getV, h5, wp_pure]
    rw [wp_bind, wp_eq t1, wp_eq t2]
    exact hq
  have e2 : (bin2 addA (getV 12) (cst (.int 1))) σ S = .ok (.int ((w.2 + k + 1 : Nat) : Int)) S := run_of fun Q E hq => by
    simp only [bin2, getV, h12, cst, wp_bind, wp_pure, wp_addI]
    exact hq
  simp only [exprS, bmE, wp_bind]
  rw [show getV 4 σ = M.pure (.ref 0) from by unfold getV; rw [g.s4], wp_pure, chkL_wp g.o (nolock g.lk 0)]
  simp only [consA, nilA, wp_bind]
  rw [tup2_wp, wp_eq e1, wp_eq e2]
  simp only [wp_pure, app_wp g.o (nolock g.lk 0) hz2]
  rw [List.map_append] at q
  exact q
theorem gy2_wp {Q : Fl → Sto → Prop} {w : Nd} (g : Sd σ S ns tab many st best) (h5 : σ[5]? = some (some (encH w.1))) (h6 : σ[6]? = some (some (.int (w.2 : Int)))) (hw : w.2 ≤ ns.length) (hn : ns.length ≤ 6) (hl : w.1.length ≤ 100) (hz : st.length ≤ 900) (q : ∀ σ' S', Sd σ' S' ns tab many (st ++ kids ns w) best → Q (.nx σ') S') : wp (gy2 σ) S Q E := by
  have hit : rngA (consA (getV 6) (consA (callE (consA (getV 2) nilA) lenC) nilA)) σ S = .ok ((List.range (ns.length - w.2)).map fun (k : Nat) => D.int ((w.2 + k : Nat) : Int)) S := run_of fun Q E hq => by
    have hlen : wp (callE (consA (getV 2) nilA) lenC σ) S = fun Q E => Q (.int (ns.length : Int)) S := by
      funext Q E
      rw [call1_wp]
      simp only [getV, g.s2, wp_pure]
      rw [lenLst_wp, List.length_map]
    simp only [rngA, consA, nilA, wp_bind, getV, h6, wp_pure, hlen]
    have e : rngC [.int (w.2 : Int), .int (ns.length : Int)] S = .ok ((List.range (ns.length - w.2)).map fun (k : Nat) => D.int ((w.2 + k : Nat) : Int)) S := by
      have hd : ((ns.length : Int) - (w.2 : Int)).toNat = ns.length - w.2 := by omega
      have hc : -(2 ^ 62) ≤ (w.2 : Int) ∧ (w.2 : Int) < 2 ^ 62 ∧ -(2 ^ 62) ≤ (ns.length : Int) ∧ (ns.length : Int) < 2 ^ 62 := by omega
      unfold rngC
      simp only [if_pos hc, hd]
      rfl
    rw [wp_eq e]
    exact hq
  unfold gy2 forS
  rw [wp_bind, wp_eq hit]
  refine wp_loopR (fun (k : Nat) => D.int ((w.2 + k : Nat) : Int)) (ns.length - w.2) (fun k σ S => Sd σ S ns tab many (st ++ (List.range k).map (kid ns w)) best ∧ σ[5]? = some (some (encH w.1))) (fun k σ S hk h => ?_) (fun σ S h => ?_) ⟨by rw [List.range_zero, List.map_nil, List.append_nil]; exact g, h5⟩
  · obtain ⟨g, h5⟩ := h
    simp only [nameG, wp_pure]
    refine gb1_wp (w := w) (k := k) (g.set (i := 12) (by decide) _) (by rw [List.getElem?_set_ne (by decide)]; exact h5) (List.getElem?_set_self (g.lt (by decide))) (by omega) hl (by rw [List.length_append, List.length_map, List.length_range]; omega) ?_
    refine ⟨?_, by rw [List.getElem?_set_ne (by decide)]; exact h5⟩
    have e : st ++ (List.range (k + 1)).map (kid ns w) = (st ++ (List.range k).map (kid ns w)) ++ [kid ns w k] := by
      rw [List.range_succ, List.map_append, ← List.append_assoc]
      rfl
    rw [e]
    exact (g.set (i := 12) (by decide) _).put _
  · exact q σ S h.1
end
end K01

set_option Elab.async false
set_option linter.all false
set_option maxRecDepth 100000
set_option maxHeartbeats 1000000
namespace K01
open PySem PySem.Spec PyProof.Rows L2 LamX Fd
/-! ### grouped -/
def gr0 : En → M Fl := (setS 2 (callE (consA (getV 0) nilA) (sortedA false)))
def gr1 : En → M Fl := (ifS (orT (tst1 (bin2 gtI (callE (consA (getV 2) nilA) lenC) (cst (.int 8)))) (notT (tst1 (chainV leI leI (cst (.int 1)) (getV 1) (callE (consA (getV 2) nilA) lenC))))) (fun _ => M.exc 0) skip)
def gr2 : En → M Fl := (parS 3 4 (consA (cst .non) (consA (lstO (consA (tupV (consA (tupF nilA) (consA (cst (.int 0)) nilA))) nilA)) nilA)))
def gr3 : En → M Fl := (whileM L_grouped_t0 L_grouped_b2 100000)
def gr4 : En → M Fl := (retS (tupV (consA (bin2 itemO (getV 3) (cst (.int 0))) (consA (bin2 itemO (getV 3) (cst (.int 2))) nilA))))
theorem dn_grouped_eq : dn_grouped = seqS gr0 (seqS gr1 (seqS gr2 (seqS gr3 gr4))) := rfl
section
variable {S S0 : Sto} {E : Nat → Sto → Prop} {Q : D → Sto → Prop} {σ σ0 : En} {ns h done : List Str} {tab : Str → Tb} {b many : Nat} {st : List Nd} {best : Option (List Str)}
theorem encN_py (S : Sto) (k : Nat) (w : Nd) : toPy S (k + 3) (encN w) = some (.tuple [.tuple (w.1.map .str), .int (w.2 : Int)]) := by
  show (([encH w.1, D.int (w.2 : Int)] : List D).mapM (toPy S (k + 2))).map PyData.tuple = _
  rw [List.mapM_cons, List.mapM_cons, List.mapM_nil, encH_py]
  rfl
theorem encNs_py (S : Sto) (k : Nat) : ∀ l : List Nd, (l.map encN).mapM (toPy S (k + 3)) = some (l.map fun w => PyData.tuple [.tuple (w.1.map .str), .int (w.2 : Int)])
  | [] => rfl
  | w :: l => by
    rw [List.map_cons, List.mapM_cons, encN_py, encNs_py S k l]
    rfl
theorem neNilR {l : Nat} {ds : List D} {ps : List PyData} (h : S.objs[l]? = some (.lst ds)) (hp : ds.mapM (toPy S 11) = some ps) (hl : ps.length = ds.length) : neA (.ref l) (.lst []) S = .ok (.bl (!ds.isEmpty)) S := by
  have h1 : py S (.ref l) = some (.list ps) := by
    show (match S.objs[l]? with
      | some (.lst ds) => (ds.mapM (toPy S 11)).map PyData.list
      | _ => none) = _
    rw [h]
    show (ds.mapM (toPy S 11)).map PyData.list = _
    rw [hp]
    rfl
  have hd : dctD S (.ref l) = none := by unfold dctD; simp only [h]
  rw [neEqv_ok hd h1 (show py S (.lst []) = some (.list []) from rfl)]
  congr 2
  cases ds with
  | nil =>
    rw [List.eq_nil_of_length_eq_zero hl]
    simp [PyData.eqv, PyData.eqvAll]
  | cons w st =>
    cases ps with
    | nil => cases hl
    | cons p ps => simp [PyData.eqv, PyData.eqvAll]
theorem gt0_ok (g : Sd σ S ns tab many st best) : L_grouped_t0 σ S = .ok (!st.isEmpty) S := run_of fun Q E hq => by
  have e := neNilR g.o (encNs_py S 8 st) (by rw [List.length_map, List.length_map])
  rw [List.isEmpty_map] at e
  unfold L_grouped_t0
  simp only [tst1, bin2, getV, g.s4, wp_bind, wp_pure, lst0_wp, wp_eq e, wp_asB]
  exact hq
theorem sortedV_ok (P : Ppl ns tab) : sortedA false [.dct false (pk ns tab)] S = .ok (.lst (ns.map .str)) S := by
  show sortKC false [.dct false (pk ns tab)] S = _
  unfold sortKC
  have hk : Fd.sortK S (.dct false (pk ns tab)) = some (ns.map D.str) := by
    show some ((pk ns tab).map fun p => dkD p.1) = _
    unfold pk
    rw [List.map_map]
    rfl
  simp only [hk]
  have hp : pysD S (ns.map D.str) = some (ns.map PyData.str) := mapM_strs S 12 _
  simp only [hp, alikeN, if_true, Bool.false_eq_true, if_false, sortN P.so]
theorem gy1t_ok {w : Nd} (g : Sd σ S ns tab many st best) (h5 : σ[5]? = some (some (encH w.1))) : gy1t σ S = .ok (decide (w.1.length = many)) S := run_of fun Q E hq => by
  have hlen : wp (lenC [encH w.1]) S = fun Q E => Q (.int (w.1.length : Int)) S := by
    funext Q E
    refine wp_eq ?_
    show Fd.R.ok (D.int ((w.1.map D.str).length : Int)) S = _
    rw [List.length_map]
  unfold gy1t
  simp only [tst1, bin2, call1_wp, getV, h5, g.s1, wp_bind, wp_pure, hlen, wp_eqI, wp_asB]
  rw [show decide ((w.1.length : Int) = (many : Int)) = decide (w.1.length = many) from decide_eq_decide.mpr (by omega)]
  exact hq
theorem gb2_wp {w : Nd} {seen : List (List Str)} (P : Ppl ns tab) (m1 : 1 ≤ many) (g : Sd σ S ns tab many (st ++ [w]) best) (B : Bt ns tab many (st ++ [w]) best seen) (hm : msr ns (st ++ [w]) ≤ 64) (hml : many ≤ ns.length) :
    wp (L_grouped_b2 σ) S (fun fl S2 => ∃ σ2 st2 best2 seen2, (fl = .nx σ2 ∨ fl = .ct σ2) ∧ msr ns st2 < msr ns (st ++ [w]) ∧ Sd σ2 S2 ns tab many st2 best2 ∧ Bt ns tab many st2 best2 seen2) E := by
  have hw := B.ok w (List.mem_append_right _ (List.mem_singleton.mpr rfl))
  have l6 := P.l6
  have hpop : ∀ {Q : D → Sto → Prop} {E : Nat → Sto → Prop}, wp (popM (.ref 0) []) S Q E = Q (encN w) (S.put 0 (.lst (st.map encN))) := fun {Q E} => pop_wp (by rw [g.o, List.map_append]; rfl) (nolock g.lk 0)
  have e0 : gy0 σ S = .ok (.nx ((σ.set 5 (some (encH w.1))).set 6 (some (.int (w.2 : Int))))) (S.put 0 (.lst (st.map encN))) := run_of fun Q E hq => by
    unfold gy0
    simp only [asgS, bmE, wp_bind]
    rw [show getV 4 σ = M.pure (.ref 0) from by unfold getV; rw [g.s4], wp_pure, chkL_wp g.o (nolock g.lk 0)]
    simp only [nilA, wp_pure, hpop, encN, tupG, tupD, consG, nilG, nameG, wp_bind, wp_ite, List.length_cons, List.length_nil, if_true]
    exact hq
  rw [L_grouped_b2_eq]
  simp only [seqS, wp_bind, wp_eq e0]
  have g1 : Sd ((σ.set 5 (some (encH w.1))).set 6 (some (.int (w.2 : Int)))) (S.put 0 (.lst (st.map encN))) ns tab many st best := ((g.put st).set (by decide) _).set (by decide) _
  have h5 : ((σ.set 5 (some (encH w.1))).set 6 (some (D.int (w.2 : Int))))[5]? = some (some (encH w.1)) := by rw [List.getElem?_set_ne (by decide), List.getElem?_set_self (g.lt (by decide))]
  have h6 : ((σ.set 5 (some (encH w.1))).set 6 (some (D.int (w.2 : Int))))[6]? = some (some (.int (w.2 : Int))) := List.getElem?_set_self (by rw [List.length_set]; exact g.lt (by decide))
  generalize (σ.set 5 (some (encH w.1))).set 6 (some (D.int (w.2 : Int))) = τ at g1 h5 h6
  generalize S.put 0 (.lst (st.map encN)) = S1 at g1
  have hlt : msr ns st < msr ns (st ++ [w]) := by
    rw [msr_app]
    have := msz_pos ns w
    have h : msr ns [w] = msz ns w := by unfold msr; simp
    omega
  unfold ifS
  simp only [wp_bind, wp_eq (gy1t_ok g1 h5), wp_ite, decide_eq_true_eq]
  by_cases hl : w.1.length = many
  · rw [if_pos hl]
    refine leaf_wp P g1 h5 (fun z => by rw [z] at hl; simp at hl; omega) hw.2.2 (by omega) fun σ' S' g' => ?_
    simp only [wp_pure]
    exact ⟨σ', st, _, _, .inr rfl, hlt, g', B.leaf hl⟩
  · rw [if_neg hl]
    simp only [skip, wp_pure]
    have z1 := len_msr ns st
    refine gy2_wp g1 h5 h6 hw.2.1 l6 (by omega) (by omega) fun σ' S' g' => ?_
    refine ⟨σ', _, _, _, .inl rfl, ?_, g', B.node (by omega)⟩
    rw [msr_app, msr_app]
    have := msr_kids ns w
    have h : msr ns [w] = msz ns w := by unfold msr; simp
    omega
theorem grouped_ok (P : Ppl ns tab) (m1 : 1 ≤ many) (hml : many ≤ ns.length) : wp (bodyD 15 dn_grouped [.dct false (pk ns tab), .int (many : Int)]) Sto.e (fun d _ => ∃ bst seen, d = .tup [.int (totL tab bst ns), .tup ((grpL tab bst ns).map fun r => .tup (r.map .str))] ∧ LeastP (pyR tab ns) bst seen ∧ ∀ x, x ∈ cmb ns many ↔ x ∈ seen) fun _ _ => False := by
  have l6 := P.l6
  have l1 := P.l1
  unfold bodyD
  rw [dn_grouped_eq, show startD 15 [.dct false (pk ns tab), .int (many : Int)] = [some (.dct false (pk ns tab)), some (.int (many : Int)), none, none, none, none, none, none, none, none, none, none, none, none, none] from rfl]
  have e0 : gr0 [some (.dct false (pk ns tab)), some (.int (many : Int)), none, none, none, none, none, none, none, none, none, none, none, none, none] Sto.e = .ok (.nx [some (.dct false (pk ns tab)), some (.int (many : Int)), some (.lst (ns.map .str)), none, none, none, none, none, none, none, none, none, none, none, none]) Sto.e := run_of fun Q E hq => by
    unfold gr0 setS
    rw [wp_bind, call1_wp]
    simp only [getV, List.getElem?_cons_zero, wp_pure, wp_eq (sortedV_ok (S := Sto.e) P), List.set_cons_zero, List.set_cons_succ]
    exact hq
  simp only [seqS, wp_bind, wp_eq e0]
  have hlen : wp (lenC [.lst (ns.map D.str)]) Sto.e = fun Q E => Q (.int (ns.length : Int)) Sto.e := by
    funext Q E
    rw [lenLst_wp, List.length_map]
  have e1 : gr1 [some (.dct false (pk ns tab)), some (.int (many : Int)), some (.lst (ns.map .str)), none, none, none, none, none, none, none, none, none, none, none, none] Sto.e = .ok (.nx [some (.dct false (pk ns tab)), some (.int (many : Int)), some (.lst (ns.map .str)), none, none, none, none, none, none, none, none, none, none, none, none]) Sto.e := run_of fun Q E hq => by
    unfold gr1
    simp only [ifS, orT, notT, tst1, bin2, chainV, callE, consA, nilA, getV, cst, wp_bind, wp_pure, wp_ite, List.getElem?_cons_zero, List.getElem?_cons_succ, hlen, wp_gtI, wp_leI, wp_asB, show decide ((8 : Int) < (ns.length : Int)) = false from decide_eq_false (by omega), show decide ((1 : Int) ≤ (many : Int)) = true from decide_eq_true (by omega), show decide ((many : Int) ≤ (ns.length : Int)) = true from decide_eq_true (by omega), Bool.false_eq_true, if_false, if_true, Bool.not_true, skip]
    exact hq
  simp only [seqS, wp_bind, wp_eq e1]
  have e2 : gr2 [some (.dct false (pk ns tab)), some (.int (many : Int)), some (.lst (ns.map .str)), none, none, none, none, none, none, none, none, none, none, none, none] Sto.e = .ok (.nx [some (.dct false (pk ns tab)), some (.int (many : Int)), some (.lst (ns.map .str)), some .non, some (.ref 0), none, none, none, none, none, none, none, none, none, none]) ⟨[.lst [encN ([], 0)]], []⟩ := run_of fun Q E hq => by
    unfold gr2
    simp only [parS, consA, nilA, cst, lstO, wp_bind, wp_pure, tup2_wp, wp_eq tupF0_ok, wp_ite, List.length_cons, List.length_nil, show ((0 : Nat) + 1 ≤ sizeLine) = True from eq_true (by decide), if_true, newL_wp, List.set_cons_zero, List.set_cons_succ]
    exact hq
  simp only [seqS, wp_bind, wp_eq e2]
  have gI : Sd [some (.dct false (pk ns tab)), some (.int (many : Int)), some (.lst (ns.map .str)), some .non, some (.ref 0), none, none, none, none, none, none, none, none, none, none] ⟨[.lst [encN ([], 0)]], []⟩ ns tab many [([], 0)] none := ⟨rfl, rfl, rfl, rfl, rfl, rfl, rfl, rfl⟩
  have BI : Bt ns tab many [([], 0)] none [] := by
    refine ⟨fun x => ?_, fun w hw => ?_, rfl⟩
    · have : lv ns many ([], 0) = cmb ns many := by
        unfold lv
        simp
      constructor
      · intro h
        exact .inr ⟨([], 0), List.mem_singleton.mpr rfl, by rw [this]; exact h⟩
      · rintro (h | ⟨w, hw, hx⟩)
        · cases h
        · rw [List.mem_singleton] at hw
          subst hw
          rw [this] at hx
          exact hx
    · rw [List.mem_singleton] at hw
      subst hw
      exact ⟨Nat.zero_le _, Nat.zero_le _, fun y hy => by cases hy⟩
  have hmI : msr ns [([], 0)] ≤ 64 := by
    show 2 ^ (ns.length - 0) + 0 ≤ 64
    have : 2 ^ (ns.length - 0) ≤ 2 ^ 6 := Nat.pow_le_pow_right (by decide) (by omega)
    omega
  show wp (gr3 _) _ _ _
  unfold gr3
  refine wp_while (fun m σ S => ∃ st best seen, m = msr ns st ∧ msr ns st ≤ 64 ∧ Sd σ S ns tab many st best ∧ Bt ns tab many st best seen) (fun m σ S hI => ?_) 100000 _ _ _ (show msr ns [([], 0)] < 100000 by omega) ⟨[([], 0)], none, [], rfl, hmI, gI, BI⟩
  obtain ⟨st, best, seen, rfl, hm, g, B⟩ := hI
  rw [wp_eq (gt0_ok g)]
  rcases List.eq_nil_or_concat st with rfl | ⟨st0, w, rfl⟩
  · rw [if_neg (by decide)]
    have hall : ∀ x, x ∈ cmb ns many ↔ x ∈ seen := fun x => by
      rw [B.all x]
      constructor
      · rintro (h | ⟨w, hw, _⟩)
        · exact h
        · cases hw
      · exact .inl
    cases best with
    | none =>
      have hs : seen = [] := B.best
      exfalso
      have hne := cmb_ne ns many hml
      cases hc : cmb ns many with
      | nil => exact hne hc
      | cons x r =>
        have := (hall x).mp (by rw [hc]; exact List.mem_cons_self)
        rw [hs] at this
        cases this
    | some bst =>
      have hb : LeastP (pyR tab ns) bst seen := B.best
      have k3 : σ[3]? = some (some (encR tab ns bst)) := g.s3
      have x0 : ∀ {Q : D → Sto → Prop} {E : Nat → Sto → Prop}, wp (itemO (encR tab ns bst) (.int 0)) S Q E = Q (.int (totL tab bst ns)) S := fun {Q E} => wp_eq rfl
      simp only [gr4, retS, tup2_wp, bin2, getV, cst, k3, wp_bind, wp_pure, x0]
      have x2 : ∀ {Q : D → Sto → Prop} {E : Nat → Sto → Prop}, wp (itemO (encR tab ns bst) (.int 2)) S Q E = Q (.tup ((grpL tab bst ns).map fun r => .tup (r.map .str))) S := fun {Q E} => ix2_wp _ _ _
      simp only [x2]
      exact ⟨bst, seen, rfl, hb, hall⟩
  · rw [if_pos (by cases st0 <;> rfl)]
    rw [List.concat_eq_append] at *
    refine wp_mono (gb2_wp P m1 g B hm hml) (fun fl S2 h => ?_) fun _ _ z => z
    obtain ⟨σ2, st2, best2, seen2, hfl, hlt, g2, B2⟩ := h
    rcases hfl with rfl | rfl
    · exact ⟨_, hlt, st2, best2, seen2, rfl, by omega, g2, B2⟩
    · exact ⟨_, hlt, st2, best2, seen2, rfl, by omega, g2, B2⟩
end
end K01

set_option Elab.async false
set_option linter.all false
set_option maxRecDepth 100000
set_option maxHeartbeats 1000000
namespace K01
open PySem PySem.Spec PyProof.Rows L2 LamX Fd
/-! ### the tail -/
def tailE : En := none :: some (.lst (nm5.map .str)) :: List.replicate 30 none
theorem tail_ok : (match L_law_tail0 tailE Sto.e with
  | .ok (.rt (.bl b)) _ => b
  | _ => false) = true := by decide +kernel
theorem tail_run : ∃ S', L_law_tail0 tailE Sto.e = .ok (.rt (.bl true)) S' := by
  have h := tail_ok
  cases e : L_law_tail0 tailE Sto.e with
  | stk => rw [e] at h; cases h
  | exc c S' => rw [e] at h; cases h
  | ok fl S' =>
    rw [e] at h
    cases fl with
    | rt d =>
      cases d with
      | bl b =>
        have h : b = true := h
        rw [h]
        exact ⟨S', rfl⟩
      | _ => cases h
    | _ => cases h
end K01

set_option Elab.async false
set_option linter.all false
set_option maxRecDepth 100000
set_option maxHeartbeats 1000000
namespace K01
open PySem PySem.Spec PyProof.Rows L2 LamX Fd
/-! ### the law's own groups -/
def gw0 : En → M Fl := (setS 24 (callE (consA (lockQ (locV 21) (genE (enumS (getV 21)) [5, 30] (tupG 2 (consG (nameG 5) (consG (nameG 30) nilG))) yesT (tupV (consA (callE (consA (bin2 itemO (getV 18) (getV 16)) (consA (bin2 itemO (getV 18) (getV 30)) nilA)) (arg 2 D_lawFar)) (consA (getV 5) nilA))) chkAll finLst)) nilA) (bestC PySem.W.dataLt)))
def gw1 : En → M Fl := (setS 24 (ifV (tst1 (bin2 inO (getV 16) (getV 21))) (tupV (consA (cst (.int 0)) (consA (tmE (getV 21) (consA (getV 16) nilA)) nilA))) (getV 24)))
def gw2 : En → M Fl := (asgS (tupV (consA (bin2 addA (bin2 itemO (getV 22) (bin2 itemO (getV 24) (cst (.int 1)))) (lstV (consA (getV 16) nilA))) (consA (bin2 addA (getV 23) (bin2 itemO (getV 24) (cst (.int 0)))) nilA))) (tupG 2 (consG (subG (getV 22) (bin2 itemO (getV 24) (cst (.int 1)))) (consG (nameG 23) nilG))))
theorem L_law_b2_eq : L_law_b2 = seqS gw0 (seqS gw1 gw2) := rfl
def gv0 : En → M Fl := (parS 22 23 (consA (lockQ (locV 21) (genE (itSeq (getV 21)) [30] (nameG 30) yesT (lstV nilA) chkAll newL)) (consA (cst (.int 0)) nilA)))
def gv1 : En → M Fl := (forS (itSeq (callE (consA (getV 18) nilA) (sortedA false))) (nameG 16) L_law_b2)
def gv2 : En → M Fl := (exprS (bmE "list" (getV 20) (consA (tupV (consA (getV 23) (consA (getV 21) (consA (callE (consA (lockQ (locV 22) (genE (itSeq (getV 22)) [31] (nameG 31) yesT (callE (consA (getV 31) nilA) tupC) chkAll finLst)) nilA) tupC) nilA)))) nilA) appM))
theorem L_law_b3_eq : L_law_b3 = seqS gv0 (seqS gv1 gv2) := rfl
structure Lg (σ0 σ : En) (S0 S : Sto) (ns : List Str) (tab : Str → Tb) (h : List Str) (lg : Nat) (done : List Str) : Prop where
  n : σ.length = 32
  kp : ∀ i, i = 1 ∨ i = 2 ∨ i = 19 ∨ i = 20 → σ[i]? = σ0[i]?
  s18 : σ[18]? = some (some (.dct false (pk ns tab)))
  s21 : σ[21]? = some (some (encH h))
  s22 : σ[22]? = some (some (.ref lg))
  s23 : σ[23]? = some (some (.int (totL tab h done)))
  o : S.objs[lg]? = some (.lst ((grpL tab h done).map fun r => .lst (r.map .str)))
  lk : S.locked lg = false
  f : Fre S
  ev : Ev [lg] S0 S
section
variable {S S0 : Sto} {E : Nat → Sto → Prop} {Q : D → Sto → Prop} {σ σ0 : En} {ns h done : List Str} {tab : Str → Tb} {lg : Nat}
theorem Lg.lt (g : Lg σ0 σ S0 S ns tab h lg done) {i : Nat} (hi : i < 32) : i < σ.length := by rw [g.n]; exact hi
theorem Lg.set (g : Lg σ0 σ S0 S ns tab h lg done) {i : Nat} (hi : i ≠ 1 ∧ i ≠ 2 ∧ i ≠ 19 ∧ i ≠ 20 ∧ i ≠ 18 ∧ i ≠ 21 ∧ i ≠ 22 ∧ i ≠ 23) (v : Option D) : Lg σ0 (σ.set i v) S0 S ns tab h lg done :=
  ⟨by rw [List.length_set]; exact g.n, fun j hj => by rw [List.getElem?_set_ne (by omega)]; exact g.kp j hj, by rw [List.getElem?_set_ne (by omega)]; exact g.s18, by rw [List.getElem?_set_ne (by omega)]; exact g.s21, by rw [List.getElem?_set_ne (by omega)]; exact g.s22, by rw [List.getElem?_set_ne (by omega)]; exact g.s23, g.o, g.lk, g.f, g.ev⟩
theorem Lg.gr {S' : Sto} (g : Lg σ0 σ S0 S ns tab h lg done) (r : Gr S S') : Lg σ0 σ S0 S' ns tab h lg done :=
  ⟨g.n, g.kp, g.s18, g.s21, g.s22, g.s23, r.at_ g.o, by rw [r.locked]; exact g.lk, g.f.gr r, g.ev.trans r.ev⟩
theorem grpL_len (tab : Str → Tb) (h done : List Str) : (grpL tab h done).length = h.length := by unfold grpL; rw [List.length_map, List.length_range]
theorem grpL_at {j : Nat} (hj : j < h.length) : (grpL tab h done)[j]? = some (grpJ tab h done j) := by
  unfold grpL
  rw [List.getElem?_map, List.getElem?_range hj]
  rfl
theorem gw0_wp {Q : Fl → Sto → Prop} (P : Ppl ns tab) {s : Str} (g : Lg σ0 σ S0 S ns tab h lg done) (hs : s ∈ ns) (hh : h ≠ []) (hsub : ∀ x ∈ h, x ∈ ns) (hl : h.length ≤ 6) (h16 : σ[16]? = some (some (.str s)))
    (k : ∀ b r S', srt enc2 py2 (keysN tab h s) = enc2 b :: r → Gr S S' → Q (.nx (σ.set 24 (some (enc2 b)))) S') : wp (gw0 σ) S Q E := by
  unfold gw0 setS
  rw [wp_bind, call1_wp, lockH_wp g.s21]
  refine genE_grow (fun (k : Nat) => D.tup [.int (k : Int), .str (h.getD k "")]) (List.range h.length) (fun k => enc2 (far5 (tab s) (tab (h.getD k "")), (k : Int))) (run_of fun Q E hq => ?_) (fun k hk S1 gr1 => ?_) (by rw [List.length_range]; exact Nat.le_trans hl (by decide)) fun S1 gr1 => ?_
  · simp only [enumS, getV, g.s21, wp_bind, wp_pure, wp_eq (enumH_ok h)]
    exact hq
  · refine ⟨_, run_of (S' := S1.push (.dct false (kv5 wt5))) fun Q E hq => ?_, Gr.push _ _⟩
    have hk := List.mem_range.mp hk
    have hh := hsub _ (getD_mem hk)
    obtain ⟨ω, hω⟩ : ∃ ω, ω = ((wipeE σ [5, 30]).set 5 (some (D.int (k : Int)))).set 30 (some (D.str (h.getD k ""))) := ⟨_, rfl⟩
    have w18 : ω[18]? = some (some (.dct false (pk ns tab))) := by
      rw [hω]
      show ((((σ.set 30 none).set 5 none).set 5 _).set 30 _)[18]? = _
      rw [List.getElem?_set_ne (by decide), List.getElem?_set_ne (by decide), List.getElem?_set_ne (by decide), List.getElem?_set_ne (by decide)]
      exact g.s18
    have w16 : ω[16]? = some (some (.str s)) := by
      rw [hω]
      show ((((σ.set 30 none).set 5 none).set 5 _).set 30 _)[16]? = _
      rw [List.getElem?_set_ne (by decide), List.getElem?_set_ne (by decide), List.getElem?_set_ne (by decide), List.getElem?_set_ne (by decide)]
      exact h16
    have w5 : ω[5]? = some (some (.int (k : Int))) := by
      rw [hω, List.getElem?_set_ne (by decide), List.getElem?_set_self (by show 5 < ((σ.set 30 none).set 5 none).length; rw [List.length_set, List.length_set, g.n]; decide)]
    have w30 : ω[30]? = some (some (.str (h.getD k ""))) := by
      rw [hω, List.getElem?_set_self (by show 30 < (((σ.set 30 none).set 5 none).set 5 _).length; rw [List.length_set, List.length_set, List.length_set, g.n]; decide)]
    simp only [bodG, tupG, tupD, consG, nilG, nameG, yesT, wp_bind, wp_pure, wp_ite, List.length_cons, List.length_nil, if_true]
    rw [← hω]
    have i1 : ∀ {Q : D → Sto → Prop} {E : Nat → Sto → Prop}, wp (itemO (.dct false (pk ns tab)) (.str s)) S1 Q E = Q (tb (tab s)) S1 := fun {Q E} => itemV_wp (valP P hs)
    have i2 : ∀ {Q : D → Sto → Prop} {E : Nat → Sto → Prop}, wp (itemO (.dct false (pk ns tab)) (.str (h.getD k ""))) S1 Q E = Q (tb (tab (h.getD k ""))) S1 := fun {Q E} => itemV_wp (valP P hh)
    simp only [tup2_wp, callE, consA, nilA, bin2, arg, getV, w18, w16, w5, w30, wp_bind, wp_pure, wp_ite, i1, i2, List.length_cons, List.length_nil, show ((0 : Nat) + 1 + 1 = 2) = True from eq_true rfl, if_true, wp_eq (lawFar_ok (P.ok s hs) (P.ok _ hh) (g.f.gr gr1))]
    exact hq
  · have e : (List.range h.length).map (fun (k : Nat) => enc2 (far5 (tab s) (tab (h.getD k "")), (k : Int))) = (keysN tab h s).map enc2 := by
      unfold keysN
      rw [List.map_map]
      rfl
    obtain ⟨b, r, eb, _⟩ := srt_head (enc := enc2) (py := py2) (keysN_ne (tab := tab) (s := s) hh)
    rw [e]
    show wp (bestC PySem.W.dataLt [.lst ((keysN tab h s).map enc2)]) S1 _ _
    rw [wp_eq (minX_ok srt2 rfl eb), wp_pure]
    exact k b r S1 eb gr1
theorem gw1_ok {s : Str} {b : Int × Int} {r : List D} (g : Lg σ0 σ S0 S ns tab h lg done) (hh : h ≠ []) (h16 : σ[16]? = some (some (.str s))) (h24 : σ[24]? = some (some (enc2 b))) (hb : srt enc2 py2 (keysN tab h s) = enc2 b :: r) : gw1 σ S = .ok (.nx (σ.set 24 (some (enc2 (nearK tab h s))))) S := run_of fun Q E hq => by
  unfold gw1
  simp only [setS, ifV, tst1, bin2, getV, h16, g.s21, wp_bind, wp_pure, wp_eq (inF_ok h s), wp_asB, wp_ite, decide_eq_true_eq]
  by_cases hm : s ∈ h
  · rw [if_pos hm]
    have e := tind_ok (S := S) hm g.s21 h16
    simp only [tup2_wp, cst, wp_pure, wp_eq e]
    have en : D.tup [.int 0, .int (idxS h s : Int)] = enc2 (nearK tab h s) := by unfold nearK; rw [if_pos hm]; rfl
    rw [en]
    exact hq
  · rw [if_neg hm]
    simp only [h24, wp_pure]
    have en : nearK tab h s = b := by
      unfold nearK
      rw [if_neg hm, hb]
      rfl
    rw [en] at hq
    exact hq
theorem grpL_app (tab : Str → Tb) (h done : List Str) (s : Str) {j : Nat} (hj : (nearK tab h s).2 = (j : Int)) (hjl : j < h.length) : ((grpL tab h done).map fun r => D.lst (r.map .str)).set j (.lst ((grpJ tab h done j ++ [s]).map .str)) = (grpL tab h (done ++ [s])).map fun r => .lst (r.map .str) := by
  refine List.ext_getElem? fun i => ?_
  by_cases hi : i < h.length
  · rw [List.getElem?_map, grpL_at hi, grpJ_app, hj]
    by_cases e : j = i
    · subst e
      rw [List.getElem?_set_self (by rw [List.length_map, grpL_len]; exact hi), if_pos rfl]
      rfl
    · rw [List.getElem?_set_ne e, List.getElem?_map, grpL_at hi, if_neg (by omega)]
  · rw [List.getElem?_eq_none (by rw [List.length_set, List.length_map, grpL_len]; omega), List.getElem?_eq_none (by rw [List.length_map, grpL_len]; omega)]
theorem gb2l_wp {Q : Fl → Sto → Prop} (P : Ppl ns tab) {s : Str} (g : Lg σ0 σ S0 S ns tab h lg done) (hs : s ∈ ns) (hh : h ≠ []) (hsub : ∀ x ∈ h, x ∈ ns) (hl : h.length ≤ 6) (hd : done.length ≤ 6) (h16 : σ[16]? = some (some (.str s)))
    (k : ∀ σ' S', Lg σ0 σ' S0 S' ns tab h lg (done ++ [s]) → Q (.nx σ') S') : wp (L_law_b2 σ) S Q E := by
  rw [L_law_b2_eq]
  simp only [seqS, wp_bind]
  refine gw0_wp P g hs hh hsub hl h16 fun b r S1 hb gr => ?_
  have g1 := (g.gr gr).set (i := 24) (by decide) (some (enc2 b))
  have k16 : (σ.set 24 (some (enc2 b)))[16]? = some (some (.str s)) := by rw [List.getElem?_set_ne (by decide)]; exact h16
  have k24 : (σ.set 24 (some (enc2 b)))[24]? = some (some (enc2 b)) := List.getElem?_set_self (g.lt (by decide))
  simp only [wp_bind, wp_eq (gw1_ok g1 hh k16 k24 hb)]
  rw [List.set_set]
  have g2 := (g.gr gr).set (i := 24) (by decide) (some (enc2 (nearK tab h s)))
  have q16 : (σ.set 24 (some (enc2 (nearK tab h s))))[16]? = some (some (.str s)) := by rw [List.getElem?_set_ne (by decide)]; exact h16
  have q24 : (σ.set 24 (some (enc2 (nearK tab h s))))[24]? = some (some (enc2 (nearK tab h s))) := List.getElem?_set_self (g.lt (by decide))
  generalize σ.set 24 (some (enc2 (nearK tab h s))) = τ at g2 q16 q24
  obtain ⟨t0, t1, j, hj, hjl⟩ := near_bd P (tab := tab) hh hs hsub
  have i0 : ∀ {S : Sto} {Q : D → Sto → Prop} {E : Nat → Sto → Prop}, wp (itemO (enc2 (nearK tab h s)) (.int 0)) S Q E = Q (.int (nearK tab h s).1) S := fun {S Q E} => ix0_wp _ _
  have i1 : ∀ {S : Sto} {Q : D → Sto → Prop} {E : Nat → Sto → Prop}, wp (itemO (enc2 (nearK tab h s)) (.int 1)) S Q E = Q (.int (j : Int)) S := fun {S Q E} => by rw [← hj]; exact ix1_wp _ _
  have i22 : itemO (.ref lg) (.int (j : Int)) S1 = .ok (.lst ((grpJ tab h done j).map .str)) S1 := ixR_ok g2.o (by rw [List.getElem?_map, grpL_at hjl]; rfl)
  have hset : setO (.ref lg) (.int (j : Int)) (.lst ((grpJ tab h done j ++ [s]).map .str)) S1 = .ok () (S1.put lg (.lst ((grpL tab h (done ++ [s])).map fun r => .lst (r.map .str)))) := by
    have hix : ixN ((grpL tab h done).map fun r => D.lst (r.map .str)).length (j : Int) = some j := by
      rw [List.length_map, grpL_len]
      unfold ixN
      first
        | (rw [if_pos (by omega)]; simp; done)
        | (simp; omega)
    rw [set_lst g2.o g2.lk hix, grpL_app tab h done s hj hjl]
  have hz : ((grpJ tab h done j).map D.str).length + ([D.str s] : List D).length ≤ sizeLine := by
    rw [List.length_map, List.length_singleton]
    have h1 : (grpJ tab h done j).length ≤ done.length := List.length_filter_le _ _
    have h2 : 7 ≤ sizeLine := by decide
    omega
  show wp (gw2 τ) S1 Q E
  unfold gw2
  simp only [asgS, tup2_wp, wp_bind, bin2, getV, cst, g2.s22, q24, q16, g2.s23, wp_pure, i1, wp_eq i22, lst1_wp]
  rw [addL_wp _ _ hz]
  simp only [i0, wp_addI, tupG, tupD, consG, nilG, nameG, subG, wp_bind, wp_pure, wp_ite, List.length_cons, List.length_nil, if_true, getV, g2.s22, q24, bin2, cst, i1]
  rw [show (grpJ tab h done j).map D.str ++ [.str s] = (grpJ tab h done j ++ [s]).map .str by rw [List.map_append]; rfl, wp_eq hset]
  have ev := Ev.put S1 lg (.lst ((grpL tab h (done ++ [s])).map fun r => .lst (r.map .str)))
  refine k _ _ ⟨by rw [List.length_set]; exact g2.n, fun i hi => by rw [List.getElem?_set_ne (by omega)]; exact g2.kp i hi, by rw [List.getElem?_set_ne (by decide)]; exact g2.s18, by rw [List.getElem?_set_ne (by decide)]; exact g2.s21, by rw [List.getElem?_set_ne (by decide)]; exact g2.s22, ?_, put_at (lt_of_get g2.o), by rw [ev.locked]; exact g2.lk, ev.fre g2.f, g2.ev.trans ev⟩
  rw [List.getElem?_set_self (g2.lt (by decide)), totL_app]
end
end K01

set_option Elab.async false
set_option linter.all false
set_option maxRecDepth 100000
set_option maxHeartbeats 1000000
namespace K01
open PySem PySem.Spec PyProof.Rows L2 LamX Fd
structure Wy (σ : En) (S : Sto) (ld : Nat) (ns : List Str) (tab : Str → Tb) (many lw : Nat) (dn : List (List Str)) : Prop where
  v : Rv σ S ld
  s18 : σ[18]? = some (some (.dct false (pk ns tab)))
  s19 : σ[19]? = some (some (.int (many : Int)))
  s20 : σ[20]? = some (some (.ref lw))
  lt : ld < lw
  o : S.objs[lw]? = some (.lst (dn.map (encR tab ns)))
section
variable {S S0 : Sto} {E : Nat → Sto → Prop} {Q : D → Sto → Prop} {σ σ0 : En} {ns h done : List Str} {tab : Str → Tb} {lg ld lw many : Nat} {dn : List (List Str)}
theorem Wy.set (w : Wy σ S ld ns tab many lw dn) {i : Nat} (hi : 20 < i) (v : Option D) : Wy (σ.set i v) S ld ns tab many lw dn :=
  ⟨w.v.set (by omega) v, by rw [List.getElem?_set_ne (by omega)]; exact w.s18, by rw [List.getElem?_set_ne (by omega)]; exact w.s19, by rw [List.getElem?_set_ne (by omega)]; exact w.s20, w.lt, w.o⟩
theorem grp0 (tab : Str → Tb) (h : List Str) : (grpL tab h []).map (fun r => D.lst (r.map .str)) = h.map fun _ => D.lst [] := by
  refine List.ext_getElem? fun i => ?_
  by_cases hi : i < h.length
  · rw [List.getElem?_map, grpL_at hi, List.getElem?_map, List.getElem?_eq_getElem hi]
    rfl
  · rw [List.getElem?_eq_none (by rw [List.length_map, grpL_len]; omega), List.getElem?_eq_none (by rw [List.length_map]; omega)]
theorem gv0_ok (h21 : σ[21]? = some (some (encH h))) (hl : h.length ≤ 6) : gv0 σ S = .ok (.nx ((σ.set 22 (some (.ref S.n))).set 23 (some (.int 0)))) (S.push (.lst ((grpL tab h []).map fun r => .lst (r.map .str)))) := run_of fun Q E hq => by
  unfold gv0 parS
  simp only [consA, nilA, cst, wp_bind, wp_pure]
  rw [lockH_wp h21]
  refine genE_wp (f := fun _ => some (D.lst [])) D.str h (run_of fun Q E hq => ?_) (fun x hx => run_of fun Q E hq => ?_) (Nat.le_trans hl (by decide)) ?_
  · simp only [itSeq, getV, h21, wp_bind, wp_pure]
    exact hq
  · simp only [bodG, nameG, yesT, wp_bind, wp_pure, wp_ite, if_true, lst0_wp]
    exact hq
  · rw [filterMap_some, newL_wp, ← grp0 tab h]
    exact hq
theorem gv2_wp {Q : Fl → Sto → Prop} (g : Lg σ0 σ S0 S ns tab h lg ns) (s20 : σ[20]? = some (some (.ref lw))) (o : S.objs[lw]? = some (.lst (dn.map (encR tab ns)))) (hul : S.locked lw = false) (hl : h.length ≤ 6) (hz : dn.length ≤ 100)
    (k : Q (.nx σ) (S.put lw (.lst ((dn ++ [h]).map (encR tab ns))))) : wp (gv2 σ) S Q E := by
  have hz2 : (dn.map (encR tab ns)).length < sizeLine := by
    rw [List.length_map]
    exact Nat.lt_of_le_of_lt hz (by decide)
  have e1 : (lockQ (locV 22) (genE (itSeq (getV 22)) [31] (nameG 31) yesT (callE (consA (getV 31) nilA) tupC) chkAll finLst)) σ S = .ok (.lst ((grpL tab h ns).map fun r => .tup (r.map .str))) S := run_of fun Q E hq => by
    refine inLock g.s22 g.o g.lk fun S1 hS1 hlk hl1 => ?_
    have ho1 : S1.objs[lg]? = some (.lst ((grpL tab h ns).map fun r => .lst (r.map .str))) := by rw [hS1]; exact g.o
    refine genE_wp (fun (r : List Str) => D.lst (r.map .str)) (grpL tab h ns) (fun r => some (.tup (r.map .str))) (run_of fun Q E hq => ?_) (fun r hr => run_of fun Q E hq => ?_) (by rw [grpL_len]; exact Nat.le_trans hl (by decide)) ?_
    · simp only [itSeq, getV, g.s22, wp_bind, wp_pure, itRef_wp ho1 hl1]
      exact hq
    · have k31 : ((wipeE σ [31]).set 31 (some (D.lst (r.map .str))))[31]? = some (some (.lst (r.map .str))) := List.getElem?_set_self (by show 31 < (σ.set 31 none).length; rw [List.length_set, g.n]; decide)
      simp only [bodG, nameG, yesT, wp_bind, wp_pure, wp_ite, if_true, call1_wp, getV, k31, tupS_wp]
      exact hq
    · rw [filterMap_some]
      have : ({ S1 with lck := S.lck } : Sto) = S := by
        show (⟨S1.objs, S.lck⟩ : Sto) = S
        rw [hS1]
      exact ⟨hlk, by rw [this]; exact hq⟩
  unfold gv2
  simp only [exprS, bmE, wp_bind]
  rw [show getV 20 σ = M.pure (.ref lw) from by unfold getV; rw [s20], wp_pure, chkL_wp o hul]
  simp only [consA, nilA, wp_bind]
  show wp (tupV (consA (getV 23) (consA (getV 21) (consA (callE (consA (lockQ (locV 22) (genE (itSeq (getV 22)) [31] (nameG 31) yesT (callE (consA (getV 31) nilA) tupC) chkAll finLst)) nilA) tupC) nilA))) σ) S _ _
  rw [tup3_wp]
  simp only [getV, g.s23, g.s21, wp_pure]
  rw [call1_wp, wp_eq e1, tupS_wp]

  rw [show D.tup [D.int (totL tab h ns), encH h, D.tup ((grpL tab h ns).map fun r => .tup (r.map .str))] = encR tab ns h from rfl, app_wp o hul hz2]
  rw [List.map_append] at k
  exact k
theorem gb3_wp {Q : Fl → Sto → Prop} (P : Ppl ns tab) (w : Wy σ S ld ns tab many lw dn) (h21 : σ[21]? = some (some (encH h))) (hh : h ≠ []) (hsub : ∀ x ∈ h, x ∈ ns) (hl : h.length ≤ 6) (hz : dn.length ≤ 100) (k : ∀ σ' S', Wy σ' S' ld ns tab many lw (dn ++ [h]) → Q (.nx σ') S') : wp (L_law_b3 σ) S Q E := by
  have l6 := P.l6
  rw [L_law_b3_eq]
  simp only [seqS, wp_bind, wp_eq (gv0_ok (tab := tab) h21 hl)]
  have g0 := Gr.push S (.lst ((grpL tab h []).map fun r => .lst (r.map .str)))
  have ln : σ.length = 32 := w.v.n
  have hln : ld < S.n := w.v.ldn
  have hwn : lw < S.n := lt_of_get w.o
  have f0 := w.v.fre
  have gI : Lg σ ((σ.set 22 (some (D.ref S.n))).set 23 (some (.int 0))) S (S.push (.lst ((grpL tab h []).map fun r => .lst (r.map .str)))) ns tab h S.n [] :=
    ⟨by rw [List.length_set, List.length_set]; exact ln, fun i hi => by rw [List.getElem?_set_ne (by omega), List.getElem?_set_ne (by omega)], by rw [List.getElem?_set_ne (by decide), List.getElem?_set_ne (by decide)]; exact w.s18, by rw [List.getElem?_set_ne (by decide), List.getElem?_set_ne (by decide)]; exact h21, by rw [List.getElem?_set_ne (by decide), List.getElem?_set_self (by rw [ln]; decide)], List.getElem?_set_self (by rw [List.length_set, ln]; decide), push_at _ _, by rw [g0.locked]; exact f0.no (Nat.le_refl _), f0.gr g0, g0.ev⟩
  generalize (σ.set 22 (some (D.ref S.n))).set 23 (some (.int 0)) = τ at gI
  generalize S.push (.lst ((grpL tab h []).map fun r => .lst (r.map .str))) = S1 at gI
  have e1 : itSeq (callE (consA (getV 18) nilA) (sortedA false)) τ S1 = .ok (ns.map .str) S1 := run_of fun Q E hq => by
    unfold itSeq
    rw [wp_bind, call1_wp]
    simp only [getV, gI.s18, wp_pure, wp_eq (sortedV_ok (S := S1) P), itemsL_wp]
    exact hq
  have e1' : wp (gv1 τ) S1 (fun fl S2 => ∃ σ', fl = .nx σ' ∧ Lg σ σ' S S2 ns tab h S.n ns) E := by
    unfold gv1 forS
    rw [wp_bind, wp_eq e1]
    refine wp_loop (fun ds σ1 S1 => ∃ done todo, ns = done ++ todo ∧ ds = todo.map D.str ∧ Lg σ σ1 S S1 ns tab h S.n done) (fun d ds σ1 S1 h' => ?_) (fun σ1 S1 h' => ?_) _ _ _ ⟨[], ns, rfl, rfl, gI⟩
    · obtain ⟨done, todo, h1, h2, h3⟩ := h'
      match todo, h1, h2 with
      | m :: todo, h1, h2 =>
        rw [List.map_cons] at h2
        injection h2 with h4 h5
        subst h4 h5
        have hlen := congrArg List.length h1
        rw [List.length_append, List.length_cons] at hlen
        simp only [nameG, wp_pure]
        refine gb2l_wp P (h3.set (i := 16) (by decide) _) (by rw [h1]; exact List.mem_append_right _ List.mem_cons_self) hh hsub hl (by omega) (List.getElem?_set_self (h3.lt (by decide))) fun σ' S' g' => ?_
        exact ⟨done ++ [m], todo, by rw [h1, List.append_assoc]; rfl, rfl, g'⟩
    · obtain ⟨done, todo, h1, h2, h3⟩ := h'
      have : todo = [] := List.map_eq_nil_iff.mp h2.symm
      subst this
      rw [List.append_nil] at h1
      subst h1
      exact ⟨σ1, rfl, h3⟩
  show wp (gv1 τ) S1 _ _
  refine wp_mono e1' (fun fl S2 h2 => ?_) fun _ _ z => z
  obtain ⟨σ', rfl, g⟩ := h2
  have kp := g.kp
  have ev := g.ev
  have ow : S2.objs[lw]? = some (.lst (dn.map (encR tab ns))) := ev.ob _ _ (fun z => by have := List.mem_singleton.mp z; omega) w.o
  have d2 : diceAt S2 ld := ev.dice (fun z => by have := List.mem_singleton.mp z; omega) w.v.d
  have lk2 : ∀ k, ld ≤ k → S2.locked k = false := fun k hk => by rw [ev.locked]; exact w.v.lk k hk
  have lt := w.lt
  refine gv2_wp g (by rw [kp 20 (by omega)]; exact w.s20) ow (lk2 lw (by omega)) hl hz ?_
  have ev3 := Ev.put S2 lw (.lst ((dn ++ [h]).map (encR tab ns)))
  refine k σ' _ ⟨⟨g.n, by rw [kp 1 (by omega)]; exact w.v.s1, by rw [kp 2 (by omega)]; exact w.v.s2, ev3.dice (fun z => by have := List.mem_singleton.mp z; omega) d2, fun k hk => by rw [ev3.locked]; exact lk2 k hk⟩, g.s18, by rw [kp 19 (by omega)]; exact w.s19, by rw [kp 20 (by omega)]; exact w.s20, w.lt, put_at (lt_of_get ow)⟩
/-! rd13, rd14, rd15 -/
theorem rd13_wp {Q : Fl → Sto → Prop} (P : Ppl ns tab) (v : Rv σ S ld) (s18 : σ[18]? = some (some (.dct false (pk ns tab)))) (k : ∀ σ' S' many lw, 1 ≤ many → many ≤ ns.length → Wy σ' S' ld ns tab many lw [] → Q (.nx σ') S') : wp (rd13 σ) S Q E := by
  have l1 := P.l1
  have l6 := P.l6
  have hlen : ∀ {S : Sto} {Q : D → Sto → Prop} {E : Nat → Sto → Prop}, wp (lenC [.dct false (pk ns tab)]) S Q E = Q (.int (ns.length : Int)) S := fun {S Q E} => by
    refine wp_eq ?_
    show Fd.R.ok (D.int ((pk ns tab).length : Int)) S = _
    unfold pk
    rw [List.length_map]
  unfold rd13 parS
  simp only [bin2, callE, consA, nilA, arg, cst, getV, v.s2, s18, wp_bind, wp_pure, wp_ite, hlen, List.length_cons, List.length_nil, show ((0 : Nat) + 1 + 1 = 2) = True from eq_true rfl, if_true]
  refine roll_wp v.d (by omega) (by omega) fun r a b c r0 r1 => ?_
  have v1 := v.roll a b c
  generalize S.put ld _ = S1 at v1
  rw [wp_addI]
  simp only [lstO, nilA, wp_bind, wp_pure, wp_ite, List.length_nil, show ((0 : Nat) ≤ sizeLine) = True from eq_true (Nat.zero_le _), if_true, newL_wp]
  have g := Gr.push S1 (.lst [])
  have v2 := v1.ev (ls := []) g.ev (g.dice v1.d)
  refine k _ _ (1 + r).toNat S1.n (by omega) (by omega) ⟨(v2.set (i := 19) (by decide) _).set (i := 20) (by decide) _, by rw [List.getElem?_set_ne (by decide), List.getElem?_set_ne (by decide)]; exact s18, ?_, List.getElem?_set_self (by rw [List.length_set]; exact v.lt (by decide)), v1.ldn, push_at _ _⟩
  rw [List.getElem?_set_ne (by decide), List.getElem?_set_self (v.lt (by decide)), Int.toNat_of_nonneg (by omega)]
theorem rd14_wp {Q : Fl → Sto → Prop} (P : Ppl ns tab) (m1 : 1 ≤ many) (ml : many ≤ ns.length) (w : Wy σ S ld ns tab many lw []) (k : ∀ σ' S', Wy σ' S' ld ns tab many lw (cmb ns many) → Q (.nx σ') S') : wp (rd14 σ) S Q E := by
  have l6 := P.l6
  have e1 : itSeq (callE (consA (callE (consA (getV 18) nilA) (sortedA false)) (consA (getV 19) nilA)) (arg 2 (D_lawHeads 8))) σ S = .ok ((cmb ns many).map encH) S := run_of fun Q E hq => by
    unfold itSeq
    rw [wp_bind]
    show wp (callE (consA (callE (consA (getV 18) nilA) (sortedA false)) (consA (getV 19) nilA)) (arg 2 (D_lawHeads 8)) σ) S _ _
    simp only [callE, consA, nilA, getV, w.s18, w.s19, wp_bind, wp_pure, wp_eq (sortedV_ok (S := S) P), arg, wp_ite, List.length_cons, List.length_nil, show ((0 : Nat) + 1 + 1 = 2) = True from eq_true rfl, if_true, wp_eq (lheads_ok 7 ns many S (by omega) (by decide) l6), itemsL_wp]
    exact hq
  have hc : (cmb ns many).length ≤ 64 := Nat.le_trans (cmb_len ns many) (Nat.pow_le_pow_right (by decide) l6)
  unfold rd14 forS
  rw [wp_bind, wp_eq e1]
  refine wp_loop (fun ds σ S => ∃ dn todo, cmb ns many = dn ++ todo ∧ ds = todo.map encH ∧ Wy σ S ld ns tab many lw dn) (fun d ds σ S h' => ?_) (fun σ S h' => ?_) _ _ _ ⟨[], cmb ns many, rfl, rfl, w⟩
  · obtain ⟨dn, todo, h1, h2, h3⟩ := h'
    match todo, h1, h2 with
    | m :: todo, h1, h2 =>
      rw [List.map_cons] at h2
      injection h2 with h4 h5
      subst h4 h5
      have hlen := congrArg List.length h1
      rw [List.length_append, List.length_cons] at hlen
      have hm := cmb_mem ns many m (by rw [h1]; exact List.mem_append_right _ List.mem_cons_self)
      simp only [nameG, wp_pure]
      refine gb3_wp (h := m) P (h3.set (i := 21) (by decide) _) (List.getElem?_set_self (h3.v.lt (by decide))) (fun z => by rw [z] at hm; have := hm.1; simp at this; omega) (fun x hx => hm.2.subset hx) (by omega) (by omega) fun σ' S' g' => ?_
      exact ⟨dn ++ [m], todo, by rw [h1, List.append_assoc]; rfl, rfl, g'⟩
  · obtain ⟨dn, todo, h1, h2, h3⟩ := h'
    have : todo = [] := List.map_eq_nil_iff.mp h2.symm
    subst this
    rw [List.append_nil] at h1
    subst h1
    exact k σ S h3
theorem noRefP (ns : List Str) (tab : Str → Tb) : noRefk (pk ns tab) = true := by
  induction ns with
  | nil => rfl
  | cons s ns ih =>
    show (noRef (tb (tab s)) && noRefk (pk ns tab)) = true
    rw [ih]
    rfl
theorem flatRows : ∀ l : List (List Str), flats (l.map fun r => D.tup (r.map .str)) = true
  | [] => rfl
  | r :: l => by
    show (flats (r.map D.str) && flats (l.map fun r => D.tup (r.map .str))) = true
    rw [flatS, flatRows l]
    rfl
theorem plainS : ∀ l : List Str, PyData.plainAll (l.map .str) = true
  | [] => rfl
  | s :: l => by
    show (PyData.plain (.str s) && PyData.plainAll (l.map .str)) = true
    rw [plainS l]
    rfl
theorem plainSS : ∀ l : List (List Str), PyData.plainAll (l.map fun r => PyData.tuple (r.map .str)) = true
  | [] => rfl
  | r :: l => by
    show (PyData.plainAll (r.map .str) && PyData.plainAll (l.map fun r => PyData.tuple (r.map .str))) = true
    rw [plainS, plainSS l]
    rfl
theorem rd15_wp {Q : Fl → Sto → Prop} (P : Ppl ns tab) (m1 : 1 ≤ many) (ml : many ≤ ns.length) (w : Wy σ S ld ns tab many lw (cmb ns many)) (k : Q (.nx σ) S) : wp (rd15 σ) S Q E := by
  have nr : noRefs [.dct false (pk ns tab), .int (many : Int)] = true := by
    show (noRefk (pk ns tab) && (noRef (.int (many : Int)) && true)) = true
    rw [noRefP]
    rfl
  obtain ⟨c, r, hs, hc⟩ := srt_head (enc := encR tab ns) (py := pyR tab ns) (cmb_ne ns many ml)
  have hmin : bestC PySem.W.dataLt [.ref lw] S = .ok (encR tab ns c) S := minX_ok (srtR tab ns) (by unfold seqL; simp only [w.o]) hs
  have x0 : ∀ {Q : D → Sto → Prop} {E : Nat → Sto → Prop}, wp (itemO (encR tab ns c) (.int 0)) S Q E = Q (.int (totL tab c ns)) S := fun {Q E} => wp_eq rfl
  have x2 : ∀ {Q : D → Sto → Prop} {E : Nat → Sto → Prop}, wp (itemO (encR tab ns c) (.int 2)) S Q E = Q (.tup ((grpL tab c ns).map fun r => .tup (r.map .str))) S := fun {Q E} => ix2_wp _ _ _
  have hres : D_grouped [.dct false (pk ns tab), .int (many : Int)] S = .ok (.tup [.int (totL tab c ns), .tup ((grpL tab c ns).map fun r => .tup (r.map .str))]) S := run_of fun Q E hq => by
    unfold D_grouped
    refine fresh_use (R := fun d => d = .tup [.int (totL tab c ns), .tup ((grpL tab c ns).map fun r => .tup (r.map .str))]) (X := fun _ => False) nr (wp_mono (grouped_ok P m1 ml) (fun d _ hd => ?_) fun c _ hc => hc) (fun d hd => by rw [hd]; exact hq) fun c hc => hc.elim
    obtain ⟨bst, seen, rfl, hb, hall⟩ := hd
    have e : c = bst := LeastP.uniq (fun a ha b hb h1 h2 => totR (by rw [(cmb_mem _ _ _ ha).1, (cmb_mem _ _ _ hb).1]) h1 h2) hc hb hall
    subst e
    refine ⟨?_, rfl⟩
    show (true && (flats ((grpL tab c ns).map fun r => D.tup (r.map .str)) && true)) = true
    rw [flatRows]
    rfl
  have hne : neA (.tup [.int (totL tab c ns), .tup ((grpL tab c ns).map fun r => .tup (r.map .str))]) (.tup [.int (totL tab c ns), .tup ((grpL tab c ns).map fun r => .tup (r.map .str))]) S = .ok (.bl false) S := by
    refine neSame_ok (p := .tuple [.int (totL tab c ns), .tuple ((grpL tab c ns).map fun r => .tuple (r.map .str))]) rfl ?_ (PySem.SeqAt.eqv_refl_plain _ ?_)
    · show (([D.int (totL tab c ns), .tup ((grpL tab c ns).map fun r => .tup (r.map .str))] : List D).mapM (toPy S 11)).map PyData.tuple = _
      have e2 : toPy S 11 (.tup ((grpL tab c ns).map fun r => .tup (r.map .str))) = some (.tuple ((grpL tab c ns).map fun r => .tuple (r.map .str))) := by
        show (((grpL tab c ns).map fun r => D.tup (r.map .str)).mapM (toPy S 10)).map PyData.tuple = _
        rw [py_rows S 8]
        rfl
      have e0 : toPy S 11 (.int (totL tab c ns)) = some (.int (totL tab c ns)) := rfl
      rw [List.mapM_cons, List.mapM_cons, List.mapM_nil, e0, e2]
      rfl
    · show (true && (PyData.plainAll ((grpL tab c ns).map fun r => PyData.tuple (r.map .str)) && true)) = true
      rw [plainSS]
      rfl
  unfold rd15
  unfold ifS tst1 bin2
  have b1 : (callE (consA (getV 18) (consA (getV 19) nilA)) (arg 2 D_grouped)) σ S = .ok (.tup [.int (totL tab c ns), .tup ((grpL tab c ns).map fun r => .tup (r.map .str))]) S := run_of fun Q E hq => by
    simp only [callE, consA, nilA, arg, getV, w.s18, w.s19, wp_bind, wp_pure, wp_ite, List.length_cons, List.length_nil, show ((0 : Nat) + 1 + 1 = 2) = True from eq_true rfl, if_true, wp_eq hres]
    exact hq
  have b2 : (tupV (consA (bin2 itemO (callE (consA (getV 20) nilA) (bestC PySem.W.dataLt)) (cst (.int 0))) (consA (bin2 itemO (callE (consA (getV 20) nilA) (bestC PySem.W.dataLt)) (cst (.int 2))) nilA))) σ S = .ok (.tup [.int (totL tab c ns), .tup ((grpL tab c ns).map fun r => .tup (r.map .str))]) S := run_of fun Q E hq => by
    simp only [tup2_wp, bin2, call1_wp, getV, w.s20, cst, wp_bind, wp_pure, wp_eq hmin, x0, x2]
    exact hq
  simp only [wp_bind, wp_eq b1]
  show wp (tupV (consA (bin2 itemO (callE (consA (getV 20) nilA) (bestC PySem.W.dataLt)) (cst (.int 0))) (consA (bin2 itemO (callE (consA (getV 20) nilA) (bestC PySem.W.dataLt)) (cst (.int 2))) nilA)) σ) S _ _
  rw [wp_eq b2, wp_eq hne, wp_asB]
  simp only [wp_ite, Bool.false_eq_true, if_false, skip, wp_pure]
  exact k
end
end K01

set_option Elab.async false
set_option linter.all false
set_option maxRecDepth 100000
set_option maxHeartbeats 1000000
namespace K01
open PySem PySem.Spec PyProof.Rows L2 LamX Fd
section
variable {S S0 : Sto} {E : Nat → Sto → Prop} {Q : D → Sto → Prop} {σ σ0 : En} {ld lr ls n : Nat} {T : Nat → Tb} {p : Tb}
/-! rd12: people -/
def nmP (i : Nat) : Str := nmOf "p" (i : Int)
def numP (s : Str) : Nat := ((List.range 8).find? fun i => decide (nmP i = s)).getD 0
theorem numP_ok {i : Nat} (h : i < 8) : numP (nmP i) = i := by
  have k : ∀ a : Fin 8, numP (nmP a) = a := by decide +kernel
  exact k ⟨i, h⟩
def namesP (m : Nat) : List Str := (List.range m).map nmP
theorem namesP_ok {m : Nat} (h : m ≤ 6) : (namesP m).Nodup ∧ SortedN (namesP m) := by
  have : m = 0 ∨ m = 1 ∨ m = 2 ∨ m = 3 ∨ m = 4 ∨ m = 5 ∨ m = 6 := by omega
  unfold SortedN
  rcases this with rfl | rfl | rfl | rfl | rfl | rfl | rfl <;> refine ⟨?_, ?_⟩ <;> decide +kernel
theorem p10 : ("p" : Str).length ≤ 10 := by decide +kernel
theorem ppl_of {m : Nat} {F : Nat → Tb} (m1 : 1 ≤ m) (m6 : m ≤ 6) (hF : ∀ i, i < m → Pers (F i)) : Ppl (namesP m) (fun s => F (numP s)) := by
  obtain ⟨h1, h2⟩ := namesP_ok m6
  refine ⟨h1, h2, ?_, ?_, fun s hs => ?_⟩
  · unfold namesP
    rw [List.length_map, List.length_range]
    exact m1
  · unfold namesP
    rw [List.length_map, List.length_range]
    exact m6
  · unfold namesP at hs
    obtain ⟨i, hi, rfl⟩ := List.mem_map.mp hs
    have hi := List.mem_range.mp hi
    simp only [numP_ok (show i < 8 by omega)]
    exact (hF i hi).ok
def rowP (F : Nat → Tb) (i : Nat) : D := .tup [.str (nmP i), tb (F i)]
theorem mapM_rowP (F : Nat → Tb) : ∀ l : List Nat, (l.map (rowP F)).mapM pairD = some (l.map fun i => (DK.k (.inr (nmP i)), tb (F i)))
  | [] => rfl
  | i :: l => by
    rw [List.map_cons, List.mapM_cons, mapM_rowP F l]
    rfl
theorem dictP {m : Nat} {F : Nat → Tb} (m6 : m ≤ 6) : dictL S (.lst ((List.range m).map (rowP F))) = some (pk (namesP m) fun s => F (numP s)) := by
  show (((List.range m).map (rowP F)).mapM pairD).map (mergeD []) = _
  rw [mapM_rowP]
  show some (mergeD [] _) = _
  have hk : ((List.range m).map fun i => (DK.k (.inr (nmP i)), tb (F i))) = pk (namesP m) fun s => F (numP s) := by
    unfold pk namesP
    rw [List.map_map]
    refine List.map_congr_left fun i hi => ?_
    have := List.mem_range.mp hi
    simp only [Function.comp, numP_ok (show i < 8 by omega)]
  rw [hk, merge_nodup]
  · rfl
  · rw [List.nil_append, pk_keys]
    exact keys_nodup (namesP_ok m6).1
theorem rd12_wp {Q : Fl → Sto → Prop} (v : Rv σ S ld) (h7 : σ[7]? = some (some (tb p))) (hp : Pers p) (k : ∀ S' ns tab, Ppl ns tab → Rv (σ.set 18 (some (.dct false (pk ns tab)))) S' ld → Q (.nx (σ.set 18 (some (.dct false (pk ns tab))))) S') : wp (rd12 σ) S Q E := by
  unfold rd12 setS
  rw [wp_bind]
  refine dictV1_wp ?_
  unfold genE
  rw [wp_bind]
  refine rngR_wp ?_
  simp only [bin2, cst, wp_bind, wp_pure]
  refine rollE_wp v (by decide) (by decide) fun r S1 r0 r1 v1 ev1 => ?_
  rw [wp_addI]
  refine ⟨1 + r, rfl, by omega, by omega, ?_⟩
  obtain ⟨m, hm⟩ : ∃ m, m = (1 + r).toNat := ⟨_, rfl⟩
  have m1 : 1 ≤ m := by omega
  have m6 : m ≤ 6 := by omega
  rw [← hm]
  refine wp_genL (fun ys ds S' => ∃ i F, i ≤ m ∧ ds = (List.range' i (m - i)).map (fun (i : Nat) => D.int (i : Int)) ∧ ys = (List.range i).map (rowP F) ∧ (∀ j, j < i → Pers (F j)) ∧ Rv σ S' ld) (fun ys d ds S' h => ?_) (fun ys S' h => ?_) _ _ _ ⟨0, fun _ => p, Nat.zero_le _, by rw [List.range_eq_range']; rfl, rfl, fun j hj => absurd hj (Nat.not_lt_zero _), v1⟩
  · obtain ⟨i, F, hi, hd, rfl, hF, v'⟩ := h
    obtain ⟨q, hq⟩ : ∃ q, m - i = q + 1 := by
      cases e : m - i with
      | zero => rw [e] at hd; cases hd
      | succ q => exact ⟨q, rfl⟩
    rw [hq, List.range'_succ, List.map_cons] at hd
    injection hd with h1 h2
    subst h1 h2
    have hv : Rv ((wipeE σ [5]).set 5 (some (.int (i : Int)))) S' ld := (v'.set (i := 5) (by decide) none).set (i := 5) (by decide) _
    have k5 : ((wipeE σ [5]).set 5 (some (D.int (i : Int))))[5]? = some (some (.int (i : Int))) := List.getElem?_set_self (by show 5 < (σ.set 5 none).length; rw [List.length_set, v.n]; decide)
    have k7 : ((wipeE σ [5]).set 5 (some (D.int (i : Int))))[7]? = some (some (tb p)) := by
      rw [List.getElem?_set_ne (by decide)]
      show (σ.set 5 none)[7]? = _
      rw [List.getElem?_set_ne (by decide)]
      exact h7
    simp only [bodG, nameG, yesT, wp_bind, wp_pure, wp_ite, if_true]
    generalize (wipeE σ [5]).set 5 (some (D.int (i : Int))) = τ at hv k5 k7
    show wp (tupV (consA (nmE (.str "p") 5) (consA (ifV (tst1 (bin2 gtI (callE (consA (getV 2) (consA (cst (.int 4)) nilA)) (arg 2 D_lawRoll)) (cst (.int 0)))) (callE (consA (getV 2) nilA) (arg 1 D_lawPerson)) (getV 7)) nilA)) τ) S' _ _
    rw [tup2_wp, wp_eq (nmE_ok (S := S') (c := "p") k5 (by omega) p10)]
    unfold ifV tst1 bin2
    simp only [wp_bind]
    have hc : ∀ t : Tb, chkAll ((List.range i).map (rowP F)) (.tup [.str (nmOf "p" (i : Int)), tb t]) = some none := fun t => if_pos (by
      rw [List.length_map, List.length_range]
      have : 6 < sizeLine := by decide
      omega)
    have fin : ∀ (t : Tb) S2, Pers t → Rv τ S2 ld → ∃ i' F', i' ≤ m ∧ (List.range' (i + 1) q).map (fun (i : Nat) => D.int (i : Int)) = (List.range' i' (m - i')).map (fun (i : Nat) => D.int (i : Int)) ∧ (List.range i).map (rowP F) ++ [D.tup [.str (nmOf "p" (i : Int)), tb t]] = (List.range i').map (rowP F') ∧ (∀ j, j < i' → Pers (F' j)) ∧ Rv σ S2 ld := fun t S2 ht hv2 => by
      refine ⟨i + 1, fun j => if j = i then t else F j, by omega, by rw [show m - (i + 1) = q by omega], ?_, fun j hj => ?_, ⟨v.n, v.s1, v.s2, hv2.d, hv2.lk⟩⟩
      · rw [List.range_succ, List.map_append]
        have e1 : (List.range i).map (rowP F) = (List.range i).map (rowP fun j => if j = i then t else F j) := List.map_congr_left fun j hj => by
          have := List.mem_range.mp hj
          show rowP F j = .tup [.str (nmP j), tb (if j = i then t else F j)]
          rw [if_neg (by omega)]
          rfl
        rw [e1]
        show _ = _ ++ [D.tup [.str (nmP i), tb (if i = i then t else F i)]]
        rw [if_pos rfl]
        rfl
      · simp only
        by_cases e : j = i
        · rw [if_pos e]; exact ht
        · rw [if_neg e]; exact hF j (by omega)
    refine rollE_wp hv (by decide) (by decide) fun r2 S2 _ _ v2 _ => ?_
    simp only [cst, wp_pure, wp_gtI, wp_asB, wp_ite]
    by_cases e : decide ((0 : Int) < r2) = true
    · rw [if_pos e]
      refine persE_wp v2 fun t S3 ht v3 _ => ?_
      simp only [hc]
      exact fin t S3 ht v3
    · rw [if_neg e]
      simp only [getV, k7, wp_pure]
      simp only [hc]
      exact fin p S2 hp v2
  · obtain ⟨i, F, hi, hd, rfl, hF, v'⟩ := h
    have : i = m := by
      have : m - i = 0 := by
        cases e : m - i with
        | zero => rfl
        | succ q => rw [e, List.range'_succ] at hd; cases hd
      omega
    subst this
    refine wp_of (a := D.lst ((List.range i).map (rowP F))) (S' := S') rfl ?_
    rw [dictP m6]
    simp only [wp_pure]
    exact k S' _ _ (ppl_of m1 m6 hF) (v'.set (by decide) _)
/-! ### the round -/
theorem round_wp (h : Rv σ S ld) : wp (L_law_b4 σ) S (fun fl S' => ∃ σ' : En, fl = .nx σ' ∧ σ'.length = 32 ∧ σ'[1]? = some (some (.lst (nm5.map D.str)))) fun _ _ => False := by
  have nxt : ∀ {f g : En → M Fl} {σ : En} {S : Sto} {Q : Fl → Sto → Prop} {E : Nat → Sto → Prop}, wp (f σ) S (fun fl S' => match fl with | .nx σ' => wp (g σ') S' Q E | o => Q o S') E → wp (seqS f g σ) S Q E := fun {f g σ S Q E} hh => by
    unfold seqS
    rw [wp_bind]
    refine wp_mono hh (fun fl S' h' => ?_) fun _ _ z => z
    cases fl <;> exact h'
  rw [L_law_b4_eq]
  refine nxt (rd0_wp h fun σ S lr t w h4 hp => ?_)
  refine nxt (rd1_wp w h4 hp fun σ S n T w k => ?_)
  refine nxt (rd2_wp w k fun σ S ls p o z h8 ho => ?_)
  refine nxt (rd3_wp z h8 ho fun S z => ?_)
  refine nxt (rd4_wp z fun S z4 => ?_)
  have h9 : (σ.set 9 (some (.lst (srt enc2 py2 ((List.range n).map (keyN p T))))))[9]? = some (some (.lst (srt enc2 py2 ((List.range n).map (keyN p T))))) := List.getElem?_set_self (z.w.v.lt (by decide))
  generalize σ.set 9 (some (.lst (srt enc2 py2 ((List.range n).map (keyN p T))))) = σ4 at z4 h9
  refine nxt (rd5_wp z4 ?_)
  have z5 := z4.set (i := 10) (by decide) (some (.lst ((roomL p T n).map D.str)))
  have k9 : (σ4.set 10 (some (.lst ((roomL p T n).map D.str))))[9]? = some (some (.lst (srt enc2 py2 ((List.range n).map (keyN p T))))) := by rw [List.getElem?_set_ne (by decide)]; exact h9
  have k10 : (σ4.set 10 (some (.lst ((roomL p T n).map D.str))))[10]? = some (some (.lst ((roomL p T n).map D.str))) := List.getElem?_set_self (z4.w.v.lt (by decide))
  refine nxt (rd6_wp z5 k9 k10 ?_)
  refine nxt (rd7_wp z5 fun σ S a b whole z ha hb w1 w9 s11 s12 s13 => ?_)
  refine nxt (rd8_wp z ha hb w1 w9 s11 s12 s13 fun σ S part lu B => ?_)
  refine nxt (rd9_wp B fun σ S B => ?_)
  refine nxt (rd10_wp B fun S z => ?_)
  refine nxt (rd11_wp z ?_)
  refine nxt (rd12_wp z.w.v z.s7 z.hp fun S ns tab P v => ?_)
  have q18 : (σ.set 18 (some (.dct false (pk ns tab))))[18]? = some (some (.dct false (pk ns tab))) := List.getElem?_set_self (z.w.v.lt (by decide))
  generalize σ.set 18 (some (.dct false (pk ns tab))) = σ12 at v q18
  refine nxt (rd13_wp P v q18 fun σ S many lw m1 ml w => ?_)
  refine nxt (rd14_wp P m1 ml w fun σ S w => ?_)
  exact rd15_wp P m1 ml w ⟨σ, rfl, w.v.n, w.v.s1⟩
/-! ### the law -/
theorem keep_eq {σ : En} (hl : σ.length = 32) (h1 : σ[1]? = some (some (.lst (nm5.map D.str)))) : keepE [1] σ = tailE := by
  have e : keepE [1] σ = (List.range 32).map fun i => if i = 1 then some (D.lst (nm5.map .str)) else none := by
    refine List.ext_getElem? fun i => ?_
    unfold keepE
    rw [List.getElem?_mapIdx, List.getElem?_map]
    by_cases hi : i < 32
    · rw [List.getElem?_range hi]
      by_cases e : i = 1
      · subst e
        rw [h1]
        rfl
      · obtain ⟨x, hx⟩ := getE_of_lt (show i < σ.length by omega)
        rw [hx]
        show some (if [1].contains i = true then x else none) = some (if i = 1 then _ else none)
        rw [if_neg e, if_neg (by simpa using e)]
    · rw [List.getElem?_eq_none (by omega), List.getElem?_eq_none (by rw [List.length_range]; omega)]
      rfl
  rw [e]
  rfl
theorem tail_wp {Q : Fl → Sto → Prop} (hl : σ.length = 32) (h1 : σ[1]? = some (some (.lst (nm5.map D.str)))) (q : Q (.rt (.bl true)) S) : wp (freshT [1] L_law_tail0 σ) S Q E := by
  obtain ⟨S', e⟩ := tail_run
  refine wp_of (a := Fl.rt (.bl true)) (S' := S) ?_ q
  unfold freshT
  have ho : okE [1] σ = true := by
    unfold okE
    show ((match σ[1]? with
      | some (some d) => noRef d
      | _ => true) && true) = true
    rw [h1]
    rfl
  rw [if_pos ho, keep_eq hl h1, e]
  rfl
theorem law_math : LawMath := by
  intro ns d S hl hb hd
  have hk : seqK S d = some (ns.map .int) := by
    rcases hd with ⟨rfl, rfl⟩ | ⟨rfl, lk, _, rfl⟩
    · rfl
    · rfl
  have ht : tupD d = none := by
    rcases hd with ⟨rfl, _⟩ | ⟨rfl, _⟩ <;> rfl
  have hlk : ∀ k, S.n ≤ k → S.lck.contains k = false := fun k hk => by
    rcases hd with ⟨_, rfl⟩ | ⟨_, lk, h0, rfl⟩
    · rfl
    · have hk : 1 ≤ k := hk
      show lk.contains k = false
      rw [List.contains_eq_mem]
      refine decide_eq_false fun hm => ?_
      have := h0 k hm
      omega
  have key : wp (D_law [d]) S (fun a _ => a = .bl true) fun _ _ => False := by
    unfold D_law bodyD dn_law
    have e0 : (setS 1 (lstV (consA (cst (.str "chest")) (consA (cst (.str "waist")) (consA (cst (.str "hip")) (consA (cst (.str "back")) (consA (cst (.str "sleeve")) nilA))))))) (startD 32 [d]) S = .ok (.nx ((startD 32 [d]).set 1 (some (.lst (nm5.map .str))))) S := run_of fun Q E hq => by
      simp only [setS, lstV, consA, nilA, cst, wp_bind, wp_pure, wp_ite, List.length_cons, List.length_nil, show ((0 : Nat) + 1 + 1 + 1 + 1 + 1 ≤ sizeLine) = True from eq_true (by decide), if_true]
      exact hq
    simp only [seqS, wp_bind, wp_eq e0]
    simp only [forS, itSeq, callE, consA, nilA, cst, arg, getV, wp_bind, wp_pure, wp_ite, startD, List.map_cons, List.map_nil, List.length_cons, List.length_nil, List.replicate, List.append, List.cons_append, List.nil_append, List.set_cons_succ, List.set_cons_zero, List.getElem?_cons_zero, show ((0 : Nat) + 1 + 1 = 2) = True from eq_true rfl, if_true]
    refine rounds_wp ht hk fun a b c => ?_
    rw [items_lst]
    refine wp_loop (fun ds σ S' => σ.length = 32 ∧ σ[1]? = some (some (.lst (nm5.map D.str))) ∧ (ds = [] ∨ (ds = [.ref S.n] ∧ S' = S.push (.lst [.int a, .int b, .int c])))) (fun x ds σ S' h => ?_) (fun σ S' h => ?_) _ _ _ ⟨rfl, rfl, .inr ⟨rfl, rfl⟩⟩
    · obtain ⟨h1, h3, h2 | ⟨h2, rfl⟩⟩ := h
      · cases h2
      · cases h2
        simp only [nameG, wp_pure]
        have hv : Rv (σ.set 2 (some (D.ref S.n))) (S.push (.lst [.int a, .int b, .int c])) S.n :=
          ⟨by rw [List.length_set]; exact h1, by rw [List.getElem?_set_ne (by decide)]; exact h3, List.getElem?_set_self (by omega), ⟨hlk _ (Nat.le_refl _), a, b, c, push_at _ _⟩, fun k hk => hlk k hk⟩
        refine wp_mono (round_wp hv) (fun fl S2 h4 => ?_) fun _ _ z => z
        obtain ⟨σ', rfl, h5, h6⟩ := h4
        exact ⟨h5, h6, .inl (by first | rfl | trivial)⟩
    · simp only
      exact tail_wp h.1 h.2.1 rfl
  obtain ⟨a, S', e, h⟩ := wp_out key
  exact ⟨S', by rw [e, h]⟩
end
theorem k01 : PySem.Challenge.rw_tailorstack_k01_measures_and_sizes.Holds := holds_of law_math
end K01

theorem PySem.Challenge.cw_tailorstack_k01_measures_and_sizes_holds : PySem.Challenge.rw_tailorstack_k01_measures_and_sizes.Holds := by
  exact K01.k01
