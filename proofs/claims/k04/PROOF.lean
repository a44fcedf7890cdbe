import PyProof.Rows.All
import Wide.All
import OpenK.AllK
import Wide.FinOn
import HandS.ForMost
import HandS.ForExc
import HandS.CallSlots
import HandS.Lambda
import HandS.TupAny
import HandS.Conv
import HandS.DictComp
import HandS.ListItems
import HandS.FStr
import HandS.Zip
import HandS.Sort
import HandS.Flow
import HandS.More
import HandS.Style
import HandS.DictTup
import HandS.StrMore
import HandS.TupLen
import HandS.TupMul
import HandS.RaiseMore
import HandS.EndTab
import KE.DataCmp
import KE.SortData
import KE.DataEq
import HandS.Small
import HandS.GenList
import KE.DataMinMax
import HandS.Words
import HandS.WordsExc
import HandS.Head0
import HandS.Head1
import HandS.Head2
import HandS.HeadHook1
import HandS.HeadHook2
import HandS.HeadHook3
import HandS.HeadHook4
import HandS.HeadWalk
import PySem.Challenge.RW_tailorstack_k04_cuts_from_bolts
set_option Elab.async false
set_option linter.all false
set_option maxRecDepth 100000
set_option maxHeartbeats 1000000
namespace Fd
open PySem PySem.Spec PyProof.Rows L2

/-! ### data -/
inductive DK where
  | k (x : Key)
  | t (ks : List Key)
  deriving DecidableEq
inductive D where
  | non | bl (b : Bool) | int (i : Int) | str (x : Str)
  | tup (ds : List D) | kt (ds : List D) | kl (ds : List D) | lst (ds : List D) | dct (t : Bool) (kvs : List (DK × D)) | ref (l : Nat) | lam (i : Nat)
/-- an object of the store -/
inductive SO where
  | lst (ds : List D) | dct (t : Bool) (kvs : List (DK × D)) | ins (c : Nat) (fs : List (Str × D))
structure Sto where
  objs : List SO
  lck : List Nat
abbrev Sto.n (S : Sto) : Nat := S.objs.length
inductive R (α : Type) where
  | ok (a : α) (S : Sto) | exc (c : Nat) (S : Sto) | stk
abbrev M (α : Type) := Sto → R α
def M.pure {α : Type} (a : α) : M α := fun S => .ok a S
def M.bind {α β : Type} (f : M α) (k : α → M β) : M β := fun S => match f S with
  | .ok a S' => k a S'
  | .exc c S' => .exc c S'
  | .stk => .stk
def M.exc {α : Type} (c : Nat) : M α := fun S => .exc c S
def M.stk {α : Type} : M α := fun _ => .stk
instance : Monad M where
  pure := M.pure
  bind := M.bind
/-- lift a partial value -/
def M.opt {α : Type} (o : Option α) : M α := fun S => match o with
  | some a => .ok a S
  | none => .stk
abbrev En := List (Option D)

/-! ### how data lie in the heap -/
structure Gx where
  K : PySem.W.Frag
  cA : Nat → Addr
  lamP : Nat → Addr → Addr → HO → HO → Prop
  T : Hp → Prop
  tst : ∀ H H' : Hp, (∀ b o, H b = some o → ((∃ ps, o = .tbl ps) ∨ ∃ φ, o = .ext φ) → H' b = some o) → T H → T H'

/-- a dict's entries as an object -/
inductive HOd : Bool → List (DK × V) → HO → Prop where
  | k (l : List (Key × V)) : HOd false (l.map fun p => (DK.k p.1, p.2)) (.dK l)
  | t (l : List (List Key × V)) : HOd true (l.map fun p => (DK.t p.1, p.2)) (.dT l)

/-- a tuple of the module -/
def KTup (K : PySem.W.Frag) (a : Addr) (xs : List V) : Prop := ∃ (o : Obj) (its : Array Value) (n : Nat), K.lookup a = some o ∧ o.cls = .type "tuple" ∧ o.data = .seq its n ∧ its.size ≤ sizeLine ∧ Vals xs its.toList
/-- a list of the module -/
def KLst (K : PySem.W.Frag) (a : Addr) (xs : List V) : Prop := ∃ (o : Obj) (its : Array Value) (n : Nat), K.lookup a = some o ∧ o.cls = .type "list" ∧ o.dict = none ∧ o.data = .seq its n ∧ its.size ≤ sizeLine ∧ Vals xs its.toList
def NotOwn (μ : Nat → Addr) (n : Nat) (a : Addr) : Prop := ∀ l, l < n → μ l ≠ a
mutual
def RV (G : Gx) (μ : Nat → Addr) (n : Nat) (H : Hp) : D → V → Prop
  | .non, v => v = .non
  | .bl b, v => v = .bl b
  | .int i, v => v = .int i
  | .str x, v => v = .str x
  | .tup ds, v => ∃ a vs, v = .ref a ∧ H a = some (.tup vs) ∧ RVs G μ n H ds vs
  | .kt ds, v => ∃ a vs, v = .ref a ∧ KTup G.K a vs ∧ RVs G μ n H ds vs
  | .kl ds, v => ∃ a vs, v = .ref a ∧ KLst G.K a vs ∧ RVs G μ n H ds vs
  | .lst ds, v => ∃ a vs, v = .ref a ∧ NotOwn μ n a ∧ H a = some (.lst vs) ∧ RVs G μ n H ds vs
  | .dct t kvs, v => ∃ a vs od o, v = .ref a ∧ NotOwn μ n a ∧ H a = some (.frz od o) ∧ HOd t vs o ∧ RVk G μ n H kvs vs
  | .ref l, v => l < n ∧ v = .ref (μ l)
  | .lam i, v => ∃ a o c oc, v = .ref a ∧ NotOwn μ n a ∧ H a = some o ∧ G.lamP i a c o oc ∧ (∀ ps, o ≠ .tbl ps) ∧ NotOwn μ n c ∧ H c = some oc ∧ ∀ ps, oc ≠ .tbl ps
def RVs (G : Gx) (μ : Nat → Addr) (n : Nat) (H : Hp) : List D → List V → Prop
  | [], vs => vs = []
  | d :: ds, vs => ∃ v r, vs = v :: r ∧ RV G μ n H d v ∧ RVs G μ n H ds r
def RVk (G : Gx) (μ : Nat → Addr) (n : Nat) (H : Hp) : List (DK × D) → List (DK × V) → Prop
  | [], vs => vs = []
  | (k, d) :: ds, vs => ∃ v r, vs = (k, v) :: r ∧ RV G μ n H d v ∧ RVk G μ n H ds r
end

/-- what stands (but what is owned, and the tables) stays -/
structure Ext (μ : Nat → Addr) (n : Nat) (H H' : Hp) : Prop where
  keep : ∀ a o, H a = some o → NotOwn μ n a → (∀ ps, o ≠ .tbl ps) → H' a = some o
  frz : ∀ a od u, H a = some (.frz od u) → H' a = some (.frz od u)
  there : ∀ a o, H a = some o → (∀ ps, o ≠ .tbl ps) → ∃ o', H' a = some o' ∧ ∀ ps, o' ≠ .tbl ps
theorem Ext.refl (μ : Nat → Addr) (n : Nat) (H : Hp) : Ext μ n H H := ⟨fun _ _ h _ _ => h, fun _ _ _ h => h, fun _ o h nt => ⟨o, h, nt⟩⟩
/-- the addresses of the old locations stay -/
def Agr (μ : Nat → Addr) (n : Nat) (μ' : Nat → Addr) (n' : Nat) : Prop := n ≤ n' ∧ ∀ l, l < n → μ' l = μ l
theorem Agr.refl (μ : Nat → Addr) (n : Nat) : Agr μ n μ n := ⟨Nat.le_refl _, fun _ _ => rfl⟩
theorem Agr.trans {μ μ1 μ2 : Nat → Addr} {n n1 n2 : Nat} (a : Agr μ n μ1 n1) (b : Agr μ1 n1 μ2 n2) : Agr μ n μ2 n2 :=
  ⟨Nat.le_trans a.1 b.1, fun l h => (b.2 l (Nat.lt_of_lt_of_le h a.1)).trans (a.2 l h)⟩

/-- the new locations are new addresses: none of what stood -/
def Frsh (μ' : Nat → Addr) (n n' : Nat) (H : Hp) : Prop := ∀ l, n ≤ l → l < n' → ∀ o, H (μ' l) = some o → ∃ ps, o = .tbl ps
theorem NotOwn.mono {μ μ' : Nat → Addr} {n n' : Nat} {H : Hp} {a : Addr} {o : HO} (h : NotOwn μ n a) (g : Agr μ n μ' n') (f : Frsh μ' n n' H) (e : H a = some o) (nt : ∀ ps, o ≠ .tbl ps) : NotOwn μ' n' a := fun l hl q => by
  by_cases hn : l < n
  · rw [g.2 l hn] at q; exact h l hn q
  · obtain ⟨ps, z⟩ := f l (by omega) hl o (by rw [q]; exact e)
    exact nt ps z
theorem rd_keep {μ : Nat → Addr} {n : Nat} {H H' : Hp} {a : Addr} {u : HO} (x : Ext μ n H H') (h : NotOwn μ n a) (hu : ∀ ps, u ≠ .tbl ps) (r : Rd H a u) : Rd H' a u := by
  rcases r with r | ⟨o, r⟩
  · exact .inl (x.keep a u r h hu)
  · exact .inr ⟨o, x.frz a o u r⟩
theorem rd_some {H : Hp} {a : Addr} {u : HO} (r : Rd H a u) : ∃ o, H a = some o := by
  rcases r with r | ⟨o, r⟩
  · exact ⟨_, r⟩
  · exact ⟨_, r⟩
theorem HOd.notbl {t : Bool} {vs : List (DK × V)} {o : HO} (h : HOd t vs o) : ∀ ps, o ≠ .tbl ps := fun ps e => by cases h <;> cases e

/-- no tuple is owned -/
def TupFree (μ : Nat → Addr) (n : Nat) (H : Hp) : Prop := ∀ l, l < n → ∀ vs, ¬ Rd H (μ l) (.tup vs)
structure Grow (μ : Nat → Addr) (n : Nat) (H : Hp) (μ' : Nat → Addr) (n' : Nat) (H' : Hp) : Prop where
  agr : Agr μ n μ' n'
  frsh : Frsh μ' n n' H
  ext : Ext μ n H H'
theorem Grow.refl (μ : Nat → Addr) (n : Nat) (H : Hp) : Grow μ n H μ n H := ⟨.refl _ _, fun l h1 h2 => absurd h2 (by omega), .refl _ _ _⟩
theorem tup_keep {μ : Nat → Addr} {n : Nat} {H H' : Hp} {a : Addr} {vs : List V} (x : Ext μ n H H') (tf : TupFree μ n H) (h : H a = some (.tup vs)) : H' a = some (.tup vs) :=
  x.keep a _ h (fun l hl q => tf l hl vs (.inl (by rw [q]; exact h))) (fun ps e => by cases e)
mutual
theorem RV.mono {G : Gx} {μ μ' : Nat → Addr} {n n' : Nat} {H H' : Hp} (g : Grow μ n H μ' n' H') (tf : TupFree μ n H) : ∀ (d : D) (v : V), RV G μ n H d v → RV G μ' n' H' d v
  | .non, _, h => h
  | .bl _, _, h => h
  | .int _, _, h => h
  | .str _, _, h => h
  | .tup ds, _, h => by
    obtain ⟨a, vs, h1, h2, h3⟩ := h
    exact ⟨a, vs, h1, tup_keep g.ext tf h2, RVs.mono g tf ds vs h3⟩
  | .kt ds, _, h => by
    obtain ⟨a, vs, h1, h2, h3⟩ := h
    exact ⟨a, vs, h1, h2, RVs.mono g tf ds vs h3⟩
  | .kl ds, _, h => by
    obtain ⟨a, vs, h1, h2, h3⟩ := h
    exact ⟨a, vs, h1, h2, RVs.mono g tf ds vs h3⟩
  | .lst ds, _, h => by
    obtain ⟨a, vs, h1, h2, h3, h4⟩ := h
    exact ⟨a, vs, h1, h2.mono g.agr g.frsh h3 (fun _ e => by cases e), g.ext.keep a _ h3 h2 (fun _ e => by cases e), RVs.mono g tf ds vs h4⟩
  | .dct t ds, _, h => by
    obtain ⟨a, vs, od, o, h1, h2, h3, h4, h5⟩ := h
    exact ⟨a, vs, od, o, h1, h2.mono g.agr g.frsh h3 (fun _ e => by cases e), g.ext.frz a od o h3, h4, RVk.mono g tf ds vs h5⟩
  | .ref l, _, h => by
    obtain ⟨h1, h2⟩ := h
    exact ⟨Nat.lt_of_lt_of_le h1 g.agr.1, by rw [g.agr.2 l h1]; exact h2⟩
  | .lam i, _, h => by
    obtain ⟨a, o, c, oc, h1, h2, h3, h4, h5, h6, h7, h8⟩ := h
    exact ⟨a, o, c, oc, h1, h2.mono g.agr g.frsh h3 h5, g.ext.keep a o h3 h2 h5, h4, h5, h6.mono g.agr g.frsh h7 h8, g.ext.keep c oc h7 h6 h8, h8⟩
theorem RVs.mono {G : Gx} {μ μ' : Nat → Addr} {n n' : Nat} {H H' : Hp} (g : Grow μ n H μ' n' H') (tf : TupFree μ n H) : ∀ (ds : List D) (vs : List V), RVs G μ n H ds vs → RVs G μ' n' H' ds vs
  | [], _, h => h
  | d :: ds, vs, h => by
    obtain ⟨v, r, h1, h2, h3⟩ := h
    exact ⟨v, r, h1, RV.mono g tf d v h2, RVs.mono g tf ds r h3⟩
theorem RVk.mono {G : Gx} {μ μ' : Nat → Addr} {n n' : Nat} {H H' : Hp} (g : Grow μ n H μ' n' H') (tf : TupFree μ n H) : ∀ (ds : List (DK × D)) (vs : List (DK × V)), RVk G μ n H ds vs → RVk G μ' n' H' ds vs
  | [], _, h => h
  | (k, d) :: ds, vs, h => by
    obtain ⟨v, r, h1, h2, h3⟩ := h
    exact ⟨v, r, h1, RV.mono g tf d v h2, RVk.mono g tf ds r h3⟩
end
theorem RVs.paired {G : Gx} {μ : Nat → Addr} {n : Nat} {H : Hp} : ∀ {ds : List D} {vs : List V}, RVs G μ n H ds vs → Paired (RV G μ n H) ds vs
  | [], _, h => by
    have h : _ = _ := h
    subst h; exact .nil
  | d :: ds, _, h => by
    obtain ⟨v, r, rfl, h2, h3⟩ := h
    exact .cons h2 h3.paired
theorem RVs.of {G : Gx} {μ : Nat → Addr} {n : Nat} {H : Hp} : ∀ {ds : List D} {vs : List V}, Paired (RV G μ n H) ds vs → RVs G μ n H ds vs
  | [], _, .nil => rfl
  | _ :: _, _, .cons h t => ⟨_, _, rfl, h, RVs.of t⟩
theorem RVs.length {G : Gx} {μ : Nat → Addr} {n : Nat} {H : Hp} {ds : List D} {vs : List V} (h : RVs G μ n H ds vs) : ds.length = vs.length := Paired.length h.paired
abbrev RVf (G : Gx) (μ : Nat → Addr) (n : Nat) (H : Hp) : List (Str × D) → List (Str × V) → Prop := Paired fun p q => p.1 = q.1 ∧ RV G μ n H p.2 q.2

/-- an object that is held, locked or not -/
def Held (b : Bool) (H : Hp) (a : Addr) (o : HO) : Prop := if b = true then ∃ od, H a = some (.frz od o) else H a = some o
theorem Held.rd {b : Bool} {H : Hp} {a : Addr} {o : HO} (h : Held b H a o) : Rd H a o := by
  unfold Held at h
  cases b with
  | true => obtain ⟨od, h⟩ := h; exact .inr ⟨od, h⟩
  | false => exact .inl h
def LO (G : Gx) (μ : Nat → Addr) (n : Nat) (H : Hp) (b : Bool) (a : Addr) : SO → Prop
  | .lst ds => ∃ vs, Held b H a (.lst vs) ∧ RVs G μ n H ds vs
  | .dct t kvs => ∃ vs o, Held b H a o ∧ HOd t vs o ∧ RVk G μ n H kvs vs
  | .ins c fs => ∃ dx fs', H a = some (.ins (G.cA c) dx fs') ∧ RVf G μ n H fs fs'
abbrev Sto.locked (S : Sto) (l : Nat) : Bool := S.lck.contains l
structure Lnk (G : Gx) (μ : Nat → Addr) (S : Sto) (H : Hp) : Prop where
  inj : ∀ l, l < S.n → ∀ l', l' < S.n → μ l = μ l' → l = l'
  ob : ∀ l o, S.objs[l]? = some o → LO G μ S.n H (S.locked l) (μ l) o
  tab : G.T H
  lk : ∀ l, l ∈ S.lck → l < S.n
theorem LO.hd {G : Gx} {μ : Nat → Addr} {n : Nat} {H : Hp} {b : Bool} {a : Addr} {o : SO} (h : LO G μ n H b a o) : ∃ u, H a = .some u ∧ (∀ ps, u ≠ .tbl ps) ∧ (∀ φ, u ≠ .ext φ) ∧ ∀ vs, ¬ Rd H a (.tup vs) := by
  have key : ∀ (u : HO), (∀ ps, u ≠ .tbl ps) → (∀ φ, u ≠ .ext φ) → (∀ vs, u ≠ .tup vs) → (∀ od w, u ≠ .frz od w) → Held b H a u → ∃ u, H a = .some u ∧ (∀ ps, u ≠ .tbl ps) ∧ (∀ φ, u ≠ .ext φ) ∧ ∀ vs, ¬ Rd H a (.tup vs) := fun u h1 h2 h3 h4 hh => by
    unfold Held at hh
    cases b with
    | true =>
      obtain ⟨od, e⟩ := hh
      refine ⟨_, e, fun ps q => (by cases q), fun φ q => (by cases q), fun vs r => ?_⟩
      rcases r with r | ⟨o, r⟩
      · rw [e] at r; cases r
      · rw [e] at r; cases r; exact h3 vs rfl
    | false =>
      have e : H a = Option.some u := hh
      refine ⟨_, e, h1, h2, fun vs r => ?_⟩
      rcases r with r | ⟨o, r⟩
      · rw [e] at r; cases r; exact h3 vs rfl
      · rw [e] at r; cases r; exact h4 _ _ rfl
  cases o with
  | lst ds =>
    obtain ⟨vs, h, _⟩ := h
    exact key _ (fun _ e => by cases e) (fun _ e => by cases e) (fun _ e => by cases e) (fun _ _ e => by cases e) h
  | dct t kvs =>
    obtain ⟨vs, o, h, hd, _⟩ := h
    exact key o hd.notbl (fun _ e => by cases hd <;> cases e) (fun _ e => by cases hd <;> cases e) (fun _ _ e => by cases hd <;> cases e) h
  | ins c fs =>
    obtain ⟨dx, fs', h, _⟩ := h
    refine ⟨_, h, fun _ e => (by cases e), fun _ e => (by cases e), fun vs r => ?_⟩
    rcases r with r | ⟨o, r⟩
    · rw [h] at r; cases r
    · rw [h] at r; cases r
theorem getE_of_lt {α : Type} {l : List α} {i : Nat} (h : i < l.length) : ∃ a, l[i]? = some a := ⟨l[i], List.getElem?_eq_getElem h⟩
theorem Lnk.tf {G : Gx} {μ : Nat → Addr} {S : Sto} {H : Hp} (L : Lnk G μ S H) : TupFree μ S.n H := fun l hl vs => by
  obtain ⟨o, e⟩ := getE_of_lt hl
  obtain ⟨_, _, _, _, h⟩ := (L.ob l o e).hd
  exact h vs
/-- one step, or many -/
structure Stp (G : Gx) (μ : Nat → Addr) (S : Sto) (H : Hp) (μ' : Nat → Addr) (S' : Sto) (H' : Hp) : Prop where
  lnk : Lnk G μ' S' H'
  grow : Grow μ S.n H μ' S'.n H'
theorem Stp.refl {G : Gx} {μ : Nat → Addr} {S : Sto} {H : Hp} (L : Lnk G μ S H) : Stp G μ S H μ S H := ⟨L, .refl _ _ _⟩
theorem Grow.trans {μ μ1 μ2 : Nat → Addr} {n n1 n2 : Nat} {H H1 H2 : Hp} (a : Grow μ n H μ1 n1 H1) (b : Grow μ1 n1 H1 μ2 n2 H2) : Grow μ n H μ2 n2 H2 := by
  refine ⟨a.agr.trans b.agr, fun l h1 h2 o e => ?_, fun x o e hx nt => ?_, fun x od u e => b.ext.frz _ _ _ (a.ext.frz _ _ _ e), fun x o e nt => ?_⟩
  · by_cases hl : l < n1
    · rw [b.agr.2 l hl] at e
      exact a.frsh l h1 hl o e
    · refine Classical.byContradiction fun z => ?_
      obtain ⟨o', e', nt⟩ := a.ext.there _ o e fun ps q => z ⟨ps, q⟩
      obtain ⟨ps, q⟩ := b.frsh l (by omega) h2 o' e'
      exact nt ps q
  · exact b.ext.keep x o (a.ext.keep x o e hx nt) (hx.mono a.agr a.frsh e nt) nt
  · obtain ⟨o', e', nt'⟩ := a.ext.there x o e nt
    exact b.ext.there x o' e' nt'
theorem Stp.trans {G : Gx} {μ μ1 μ2 : Nat → Addr} {S S1 S2 : Sto} {H H1 H2 : Hp} (a : Stp G μ S H μ1 S1 H1) (b : Stp G μ1 S1 H1 μ2 S2 H2) : Stp G μ S H μ2 S2 H2 := ⟨b.lnk, a.grow.trans b.grow⟩

/-! ### the slots -/
structure REn (G : Gx) (μ : Nat → Addr) (n : Nat) (H : Hp) (σd : En) (σ : L2.St) : Prop where
  len : σd.length ≤ σ.length
  at_ : ∀ (i : Nat) (d : D), σd[i]? = some (some d) → ∃ v, σ[i]? = some (some v) ∧ RV G μ n H d v
theorem REn.mono {G : Gx} {μ μ' : Nat → Addr} {n n' : Nat} {H H' : Hp} {σd : En} {σ : L2.St} (r : REn G μ n H σd σ) (g : Grow μ n H μ' n' H') (tf : TupFree μ n H) : REn G μ' n' H' σd σ := ⟨r.len, fun i d e => by
  obtain ⟨v, h1, h2⟩ := r.at_ i d e
  exact ⟨v, h1, h2.mono g tf⟩⟩
theorem REn.set {G : Gx} {μ : Nat → Addr} {n : Nat} {H : Hp} {σd : En} {σ : L2.St} {i : Nat} {d : D} {v : V} (r : REn G μ n H σd σ) (h : RV G μ n H d v) : REn G μ n H (σd.set i (some d)) (σ.set i (some v)) := by
  refine ⟨by rw [List.length_set, List.length_set]; exact r.len, fun j e hj => ?_⟩
  by_cases h1 : i = j
  · subst h1
    by_cases h2 : i < σd.length
    · rw [List.getElem?_set_self h2] at hj
      cases hj
      exact ⟨v, by rw [List.getElem?_set_self (Nat.lt_of_lt_of_le h2 r.len)], h⟩
    · rw [List.getElem?_eq_none (by simpa using h2)] at hj; cases hj
  · rw [List.getElem?_set_ne h1] at hj ⊢
    exact r.at_ j e hj
theorem REn.nil {G : Gx} {μ : Nat → Addr} {n : Nat} {H : Hp} {σ : L2.St} : REn G μ n H [] σ := ⟨Nat.zero_le _, fun i d e => by simp at e⟩

/-! ### readings -/
/-- what is wanted behind an outcome -/
def Post {α : Type} (G : Gx) (μ : Nat → Addr) (S : Sto) (H : Hp) (W : XK) (Q : α → Sto → (Nat → Addr) → Hp → Prop) : R α → Prop
  | .ok a S' => ∀ μ' H', Stp G μ S H μ' S' H' → Q a S' μ' H'
  | .exc c S' => ∀ μ' H', Stp G μ S H μ' S' H' → W (.ref (G.cA c)) none H'
  | .stk => False
theorem Post.later {α : Type} {G : Gx} {μ μ1 : Nat → Addr} {S S1 : Sto} {H H1 : Hp} {W : XK} {Q : α → Sto → (Nat → Addr) → Hp → Prop} (s : Stp G μ S H μ1 S1 H1) : ∀ {r : R α}, Post G μ S H W Q r → Post G μ1 S1 H1 W Q r
  | .ok _ _, h => fun μ' H' s' => h μ' H' (s.trans s')
  | .exc _ _, h => fun μ' H' s' => h μ' H' (s.trans s')
  | .stk, h => h
theorem Post.mono {α : Type} {G : Gx} {μ : Nat → Addr} {S : Sto} {H : Hp} {W : XK} {Q Q' : α → Sto → (Nat → Addr) → Hp → Prop} (hq : ∀ a S' μ' H', Stp G μ S H μ' S' H' → Q a S' μ' H' → Q' a S' μ' H') : ∀ {r : R α}, Post G μ S H W Q r → Post G μ S H W Q' r
  | .ok _ _, h => fun μ' H' s' => hq _ _ _ _ s' (h μ' H' s')
  | .exc _ _, h => h
  | .stk, h => h
theorem Post.bind {α β : Type} {G : Gx} {μ : Nat → Addr} {S : Sto} {H : Hp} {W : XK} {Q : β → Sto → (Nat → Addr) → Hp → Prop} {f : M α} {k : α → M β} (h : Post G μ S H W Q ((f >>= k) S)) : Post G μ S H W (fun a S1 μ1 H1 => Post G μ1 S1 H1 W Q (k a S1)) (f S) := by
  have h : Post G μ S H W Q (M.bind f k S) := h
  unfold M.bind at h
  cases e : f S with
  | ok a S1 =>
    rw [e] at h
    exact fun μ1 H1 s1 => h.later s1
  | exc c S1 =>
    rw [e] at h
    exact h
  | stk =>
    rw [e] at h
    exact h
/-- the start of a reading: what is known -/
structure At (G : Gx) (σd : En) (S : Sto) (μ : Nat → Addr) (σ : L2.St) (H : Hp) : Prop where
  en : REn G μ S.n H σd σ
  lnk : Lnk G μ S H
theorem At.step {G : Gx} {σd : En} {S S' : Sto} {μ μ' : Nat → Addr} {σ : L2.St} {H H' : Hp} (a : At G σd S μ σ H) (s : Stp G μ S H μ' S' H') : At G σd S' μ' σ H' := ⟨a.en.mono s.grow a.lnk.tf, s.lnk⟩
theorem Stp.rv {G : Gx} {S S' : Sto} {μ μ' : Nat → Addr} {H H' : Hp} (s : Stp G μ S H μ' S' H') (L : Lnk G μ S H) {d : D} {v : V} (r : RV G μ S.n H d v) : RV G μ' S'.n H' d v := r.mono s.grow L.tf
theorem Stp.rvs {G : Gx} {S S' : Sto} {μ μ' : Nat → Addr} {H H' : Hp} (s : Stp G μ S H μ' S' H') (L : Lnk G μ S H) {d : List D} {v : List V} (r : RVs G μ S.n H d v) : RVs G μ' S'.n H' d v := r.mono s.grow L.tf
def rdE (G : Gx) (W : XK) (f : En → M D) : TE := fun σ H Q => ∃ σd S μ, At G σd S μ σ H ∧ Post G μ S H W (fun d S' μ' H' => ∀ v, RV G μ' S'.n H' d v → Q v H') (f σd S)
def rdA (G : Gx) (W : XK) (f : En → M (List D)) : TA := fun σ H Q => ∃ σd S μ, At G σd S μ σ H ∧ Post G μ S H W (fun d S' μ' H' => ∀ v, RVs G μ' S'.n H' d v → Q v H') (f σd S)
def rdT (G : Gx) (W : XK) (f : En → M Bool) : TT := fun σ H Q => ∃ σd S μ, At G σd S μ σ H ∧ Post G μ S H W (fun b _ _ H' => Q b H') (f σd S)
/-- how a statement ends -/
inductive Fl where
  | nx (σ : En) | bk (σ : En) | ct (σ : En) | rt (d : D)
def flP (G : Gx) (Dn : Ends) : Fl → Sto → (Nat → Addr) → Hp → Prop
  | .nx σd, S, μ, H => ∀ σ, REn G μ S.n H σd σ → Dn.nx σ H
  | .bk σd, S, μ, H => ∀ σ, REn G μ S.n H σd σ → Dn.bk σ H
  | .ct σd, S, μ, H => ∀ σ, REn G μ S.n H σd σ → Dn.ct σ H
  | .rt d, S, μ, H => ∀ v, RV G μ S.n H d v → Dn.rt v H
def rdS (G : Gx) (W : XK) (f : En → M Fl) : TS := fun Dn σ H => ∃ σd S μ, At G σd S μ σ H ∧ Post G μ S H W (fun fl S' μ' H' => flP G Dn fl S' μ' H') (f σd S)
end Fd

set_option Elab.async false
set_option linter.all false
set_option maxRecDepth 100000
set_option maxHeartbeats 1000000
namespace Fd
open PySem PySem.Spec PyProof.Rows L2
/-! ### weaker readings -/
section
variable {X : Cx} {e : Expr} {t t' : TE}
theorem pe_imp (h : PE X e t) (m : ∀ σ H Q, t' σ H Q → t σ H Q) : PE X e t' := ⟨fun pins s σ H Q I q => h.run pins s σ H Q I (m σ H Q q)⟩
theorem pt_imp {e : Expr} {t t' : TT} (h : PT X e t) (m : ∀ σ H Q, t' σ H Q → t σ H Q) : PT X e t' := ⟨fun pins s σ H Q I q => h.run pins s σ H Q I (m σ H Q q)⟩
theorem pw_imp {e : Expr} {t t' : TT} (h : PW X e t) (m : ∀ σ H Q, t' σ H Q → t σ H Q) : PW X e t' := ⟨fun wh pins s σ H Q I q => h.run wh pins s σ H Q I (m σ H Q q)⟩
theorem pa_imp {es : List Expr} {t t' : TA} (h : PA X es t) (m : ∀ σ H Q, t' σ H Q → t σ H Q) : PA X es t' := ⟨fun p pins s σ H Q I q => h.run p pins s σ H Q I (m σ H Q q)⟩
theorem ps_imp {st : Stmt} {t t' : TS} (h : PS X st t) (m : ∀ D σ H, t' D σ H → t D σ H) : PS X st t' := ⟨fun pins s σ H D I q => h.run pins s σ H D I (m D σ H q)⟩
theorem pss_imp {st : List Stmt} {t t' : TS} (h : PSs X st t) (m : ∀ D σ H, t' D σ H → t D σ H) : PSs X st t' := ⟨fun pins s σ H D I q => h.run pins s σ H D I (m D σ H q)⟩
theorem opR_imp {f : Value → Value → Sem Value} {r r' : R2} (h : OpR X f r) (m : ∀ x y H Q, r' x y H Q → r x y H Q) : OpR X f r' := fun pins s σ H x y v u Q I rx ry q => h pins s σ H x y v u Q I rx ry (m x y H Q q)
end

/-! ### the judgements -/
abbrev SE (X : Cx) (G : Gx) (W : XK) (e : Expr) (f : En → M D) : Prop := PE X e (rdE G W f)
abbrev STe (X : Cx) (G : Gx) (W : XK) (e : Expr) (f : En → M Bool) : Prop := PT X e (rdT G W f)
abbrev SW (X : Cx) (G : Gx) (W : XK) (e : Expr) (f : En → M Bool) : Prop := PW X e (rdT G W f)
abbrev SA (X : Cx) (G : Gx) (W : XK) (es : List Expr) (f : En → M (List D)) : Prop := PA X es (rdA G W f)
abbrev SS (X : Cx) (G : Gx) (W : XK) (st : Stmt) (f : En → M Fl) : Prop := PS X st (rdS G W f)
abbrev SSs (X : Cx) (G : Gx) (W : XK) (st : List Stmt) (f : En → M Fl) : Prop := PSs X st (rdS G W f)

section
variable {X : Cx} {G : Gx} {W : XK}
/-- from a value's reading on -/
theorem rdE_bind {α : Type} {f : En → M D} {k : En → D → M α} {σd : En} {S : Sto} {μ : Nat → Addr} {σ : L2.St} {H : Hp} {Q : α → Sto → (Nat → Addr) → Hp → Prop} {R : VK} (a : At G σd S μ σ H)
    (h : Post G μ S H W Q ((f σd >>= k σd) S)) (hk : ∀ d S1 μ1 H1 v, Stp G μ S H μ1 S1 H1 → At G σd S1 μ1 σ H1 → RV G μ1 S1.n H1 d v → Post G μ1 S1 H1 W Q (k σd d S1) → R v H1) : rdE G W f σ H R :=
  ⟨σd, S, μ, a, h.bind.mono fun d S1 μ1 H1 s q v r => hk d S1 μ1 H1 v s (a.step s) r q⟩
theorem rdT_bind {α : Type} {f : En → M Bool} {k : En → Bool → M α} {σd : En} {S : Sto} {μ : Nat → Addr} {σ : L2.St} {H : Hp} {Q : α → Sto → (Nat → Addr) → Hp → Prop} {R : Bool → Hp → Prop} (a : At G σd S μ σ H)
    (h : Post G μ S H W Q ((f σd >>= k σd) S)) (hk : ∀ d S1 μ1 H1, Stp G μ S H μ1 S1 H1 → At G σd S1 μ1 σ H1 → Post G μ1 S1 H1 W Q (k σd d S1) → R d H1) : rdT G W f σ H R :=
  ⟨σd, S, μ, a, h.bind.mono fun d S1 μ1 H1 s q => hk d S1 μ1 H1 s (a.step s) q⟩
theorem rdA_bind {α : Type} {f : En → M (List D)} {k : En → List D → M α} {σd : En} {S : Sto} {μ : Nat → Addr} {σ : L2.St} {H : Hp} {Q : α → Sto → (Nat → Addr) → Hp → Prop} {R : List V → Hp → Prop} (a : At G σd S μ σ H)
    (h : Post G μ S H W Q ((f σd >>= k σd) S)) (hk : ∀ d S1 μ1 H1 v, Stp G μ S H μ1 S1 H1 → At G σd S1 μ1 σ H1 → RVs G μ1 S1.n H1 d v → Post G μ1 S1 H1 W Q (k σd d S1) → R v H1) : rdA G W f σ H R :=
  ⟨σd, S, μ, a, h.bind.mono fun d S1 μ1 H1 s q v r => hk d S1 μ1 H1 v s (a.step s) r q⟩
/-- the outcome is at hand -/
theorem Post.here {α : Type} {μ : Nat → Addr} {S : Sto} {H : Hp} {Q : α → Sto → (Nat → Addr) → Hp → Prop} {a : α} (L : Lnk G μ S H) (h : Post G μ S H W Q (.ok a S)) : Q a S μ H := h μ H (.refl L)

/-! ### names and constants -/
def getV (i : Nat) (σ : En) : M D := match σ[i]? with
  | some (some d) => M.pure d
  | _ => M.stk
theorem se_var (i : Nat) {x : Str} {pos : Pos} (hN : X.N[i]? = some x := by rfl) (hv : Vis X.env.scope x := by first | exact Or.inl rfl | exact Or.inr (Or.inl rfl) | exact Or.inr (Or.inr rfl)) (hd : (x == ("__debug__" : Str)) = false := by decide)
    (hcd : (x == ("__classdict__" : Str)) = false := by decide) : SE X G W (.Name x pos) (getV i) := by
  refine pe_imp (pe_var hN hv hd hcd) fun σ H Q ⟨σd, S, μ, a, h⟩ => ?_
  unfold getV at h
  cases e : σd[i]? with
  | none => rw [e] at h; exact h.elim
  | some o =>
    rw [e] at h
    cases o with
    | none => exact h.elim
    | some d =>
      obtain ⟨v, h1, h2⟩ := a.en.at_ i d e
      exact ⟨v, h1, (Post.here a.lnk h) v h2⟩
def cst (d : D) : En → M D := fun _ => M.pure d
theorem rd_cst {d : D} {v : V} (hv : ∀ μ n H, RV G μ n H d v) : ∀ σ H Q, rdE G W (cst d) σ H Q → tC v σ H Q := fun σ H Q ⟨σd, S, μ, a, h⟩ => (Post.here a.lnk h) v (hv _ _ _)
theorem se_int {i j pos} : SE X G W (.Constant (.int i) j pos) (cst (.int i)) := pe_imp pe_int (rd_cst fun _ _ _ => rfl)
theorem se_bl {b j pos} : SE X G W (.Constant (.bool b) j pos) (cst (.bl b)) := pe_imp pe_bl (rd_cst fun _ _ _ => rfl)
theorem se_non {j pos} : SE X G W (.Constant .none j pos) (cst .non) := pe_imp pe_non (rd_cst fun _ _ _ => rfl)
theorem se_str {x j pos} : SE X G W (.Constant (.str x) j pos) (cst (.str x)) := pe_imp pe_str (rd_cst fun _ _ _ => rfl)
/-- a constant of the module -/
theorem se_glob {x : Str} {u : Value} {v : V} {d : D} {pos : Pos} (hg : Gl X x) (hm : X.mg x = some u) (r : RelV v u) (hv : ∀ μ n H, RV G μ n H d v) (hd : (x == ("__debug__" : Str)) = false := by decide) : SE X G W (.Name x pos) (cst d) :=
  pe_imp (pe_glob hg hm r hd) (rd_cst hv)

/-! ### operators -/
abbrev rd2 (G : Gx) (W : XK) (op : D → D → M D) : R2 := fun x y H Q => ∃ d e S μ, Lnk G μ S H ∧ RV G μ S.n H d x ∧ RV G μ S.n H e y ∧ Post G μ S H W (fun d S' μ' H' => ∀ v, RV G μ' S'.n H' d v → Q v H') (op d e S)
def OpD (X : Cx) (G : Gx) (W : XK) (f : Value → Value → Sem Value) (op : D → D → M D) : Prop := OpR X f (rd2 G W op)
def bin2 (op : D → D → M D) (fa fb : En → M D) : En → M D := fun σ => fa σ >>= fun x => fb σ >>= fun y => op x y
variable {a b c : Expr} {fa fb fc : En → M D} {op : D → D → M D} {pos : Pos}
theorem rd_bin2 {r : R2} (hr : ∀ x y H Q, rd2 G W op x y H Q → r x y H Q) : ∀ σ H Q, rdE G W (bin2 op fa fb) σ H Q → rdE G W fa σ H (fun x H1 => rdE G W fb σ H1 fun y H2 => r x y H2 Q) := fun σ H Q ⟨σd, S, μ, a, h⟩ => by
  refine rdE_bind (k := fun σ x => fb σ >>= fun y => op x y) a h fun d S1 μ1 H1 v s a1 rv h1 => ?_
  refine rdE_bind (k := fun _ y => op d y) a1 h1 fun e S2 μ2 H2 u s2 a2 ru h2 => ?_
  exact hr v u H2 Q ⟨d, e, S2, μ2, a2.lnk, s2.rv a1.lnk rv, ru, h2⟩
theorem se_op {o : Operator} (ho : OpD X G W (binaryOp o) op) (ha : SE X G W a fa) (hb : SE X G W b fb) : SE X G W (.BinOp a o b pos) (bin2 op fa fb) :=
  pe_imp (pe_op ho ha hb) (rd_bin2 fun _ _ _ _ h => h)
theorem se_cmp {o : CmpOp} (ho : OpD X G W (compareOp o) op) (ha : SE X G W a fa) (hb : SE X G W b fb) (hm : behindInMarks o b = false := by first | exact nobehind _ (by decide) (by decide) | rfl) : SE X G W (.Compare a [o] [b] pos) (bin2 op fa fb) :=
  pe_imp (pe_cmpR ho ha hb hm) (rd_bin2 fun _ _ _ _ h => h)
/-- a value that is a truth value, as a test -/
def asB (d : D) : M Bool := match d with
  | .bl b => M.pure b
  | _ => M.stk
def tst1 (f : En → M D) : En → M Bool := fun σ => f σ >>= asB
theorem rd_asB {Q : Bool → Hp → Prop} {d : D} {v : V} {μ : Nat → Addr} {S : Sto} {H : Hp} (L : Lnk G μ S H) (r : RV G μ S.n H d v) (h : Post G μ S H W (fun b _ _ H' => Q b H') (asB d S)) : ∃ k, v = .bl k ∧ Q k H := by
  unfold asB at h
  cases d with
  | bl b => exact ⟨b, r, Post.here L h⟩
  | _ => exact h.elim
theorem st_val (ha : SE X G W a fa) (he : ∀ whole, isTrue a X.env whole = (do let v ← whole; standAt a.pos; holding [v] (truthy v)) := by intro _; rfl) : STe X G W a (tst1 fa) := by
  refine pt_imp (pt_val ha he) fun σ H Q ⟨σd, S, μ, at_, h⟩ => ?_
  exact rdE_bind (k := fun _ => asB) at_ h fun d S1 μ1 H1 v s a1 rv h1 => rd_asB a1.lnk rv h1
theorem st_cmp {o : CmpOp} (ho : OpD X G W (compareOp o) op) (ha : SE X G W a fa) (hb : SE X G W b fb) (hm : behindInMarks o b = false := by first | exact nobehind _ (by decide) (by decide) | rfl) : STe X G W (.Compare a [o] [b] pos) (tst1 (bin2 op fa fb)) := by
  refine pt_imp (pt_cmpR ho ha hb hm) fun σ H Q ⟨σd, S, μ, at_, h⟩ => ?_
  have h1 : rdE G W (bin2 op fa fb) σ H (fun x H' => ∃ k, x = .bl k ∧ Q k H') := rdE_bind (k := fun _ => asB) at_ h fun d S1 μ1 H1 v s a1 rv h1 => rd_asB a1.lnk rv h1
  exact rd_bin2 (fun _ _ _ _ h => h) σ H _ h1
/-! ### and, or, not -/
variable {ta tb : En → M Bool} {rest : List Expr}
def andT (ta tb : En → M Bool) : En → M Bool := fun σ => ta σ >>= fun c => if c = true then tb σ else M.pure false
def orT (ta tb : En → M Bool) : En → M Bool := fun σ => ta σ >>= fun c => if c = true then M.pure true else tb σ
def notT (ta : En → M Bool) : En → M Bool := fun σ => ta σ >>= fun c => M.pure (!c)
theorem sw_and1 (ha : STe X G W a ta) : SW X G W (.BoolOp .And [a] pos) ta := pw_and1 ha
theorem sw_or1 (ha : STe X G W a ta) : SW X G W (.BoolOp .Or [a] pos) ta := pw_or1 ha
theorem sw_and (ha : STe X G W a ta) (hb : SW X G W (.BoolOp .And (b :: rest) pos) tb) : SW X G W (.BoolOp .And (a :: b :: rest) pos) (andT ta tb) := by
  refine pw_imp (pw_and ha hb) fun σ H Q ⟨σd, S, μ, at_, h⟩ => ?_
  refine rdT_bind (k := fun σ c => if c = true then tb σ else M.pure false) at_ h fun d S1 μ1 H1 s a1 h1 => ?_
  cases d with
  | true => exact ⟨σd, S1, μ1, a1, h1⟩
  | false => exact Post.here a1.lnk h1
theorem sw_or (ha : STe X G W a ta) (hb : SW X G W (.BoolOp .Or (b :: rest) pos) tb) : SW X G W (.BoolOp .Or (a :: b :: rest) pos) (orT ta tb) := by
  refine pw_imp (pw_or ha hb) fun σ H Q ⟨σd, S, μ, at_, h⟩ => ?_
  refine rdT_bind (k := fun σ c => if c = true then M.pure true else tb σ) at_ h fun d S1 μ1 H1 s a1 h1 => ?_
  cases d with
  | true => exact Post.here a1.lnk h1
  | false => exact ⟨σd, S1, μ1, a1, h1⟩
theorem st_not (ha : STe X G W a ta) : STe X G W (.UnaryOp .Not a pos) (notT ta) := by
  refine pt_imp (pt_not ha) fun σ H Q ⟨σd, S, μ, at_, h⟩ => ?_
  exact rdT_bind (k := fun _ c => M.pure (!c)) at_ h fun d S1 μ1 H1 s a1 h1 => Post.here a1.lnk h1
/-- .. as values, of truth values -/
def andV (fa fb : En → M D) : En → M D := fun σ => fa σ >>= fun x => asB x >>= fun c => if c = true then fb σ else M.pure (.bl false)
def orV (fa fb : En → M D) : En → M D := fun σ => fa σ >>= fun x => asB x >>= fun c => if c = true then M.pure (.bl true) else fb σ
def notV (fa : En → M D) : En → M D := fun σ => fa σ >>= fun x => asB x >>= fun c => M.pure (.bl (!c))
theorem se_one {o : BoolOp} (ha : SE X G W a fa) : SE X G W (.BoolOp o [a] pos) fa := pe_one ha
theorem se_and (ha : SE X G W a fa) (hb : SE X G W (.BoolOp .And (b :: rest) pos) fb) : SE X G W (.BoolOp .And (a :: b :: rest) pos) (andV fa fb) := by
  refine pe_imp (pe_and ha hb) fun σ H Q ⟨σd, S, μ, at_, h⟩ => ?_
  refine rdE_bind (k := fun σ x => asB x >>= fun c => if c = true then fb σ else M.pure (.bl false)) at_ h fun d S1 μ1 H1 v s a1 rv h1 => ?_
  cases d with
  | bl c =>
    refine ⟨c, rv, ?_⟩
    cases c with
    | true => exact ⟨σd, S1, μ1, a1, h1⟩
    | false => exact (Post.here a1.lnk h1) _ rfl
  | _ => exact h1.elim
theorem se_or (ha : SE X G W a fa) (hb : SE X G W (.BoolOp .Or (b :: rest) pos) fb) : SE X G W (.BoolOp .Or (a :: b :: rest) pos) (orV fa fb) := by
  refine pe_imp (pe_or ha hb) fun σ H Q ⟨σd, S, μ, at_, h⟩ => ?_
  refine rdE_bind (k := fun σ x => asB x >>= fun c => if c = true then M.pure (.bl true) else fb σ) at_ h fun d S1 μ1 H1 v s a1 rv h1 => ?_
  cases d with
  | bl c =>
    refine ⟨c, rv, ?_⟩
    cases c with
    | true => exact (Post.here a1.lnk h1) _ rfl
    | false => exact ⟨σd, S1, μ1, a1, h1⟩
  | _ => exact h1.elim
theorem se_not (ha : SE X G W a fa) : SE X G W (.UnaryOp .Not a pos) (notV fa) := by
  refine pe_imp (pe_not ha) fun σ H Q ⟨σd, S, μ, at_, h⟩ => ?_
  refine rdE_bind (k := fun σ x => asB x >>= fun c => M.pure (D.bl (!c))) at_ h fun d S1 μ1 H1 v s a1 rv h1 => ?_
  cases d with
  | bl c => exact ⟨c, rv, (Post.here a1.lnk h1) _ rfl⟩
  | _ => exact h1.elim
def ifV (t : En → M Bool) (fa fb : En → M D) : En → M D := fun σ => t σ >>= fun c => if c = true then fa σ else fb σ
theorem se_if (hc : STe X G W c ta) (ha : SE X G W a fa) (hb : SE X G W b fb) : SE X G W (.IfExp c a b pos) (ifV ta fa fb) := by
  refine pe_imp (pe_ifExp hc ha hb) fun σ H Q ⟨σd, S, μ, at_, h⟩ => ?_
  refine rdT_bind (k := fun σ c => if c = true then fa σ else fb σ) at_ h fun d S1 μ1 H1 s a1 h1 => ?_
  cases d with
  | true => exact ⟨σd, S1, μ1, a1, h1⟩
  | false => exact ⟨σd, S1, μ1, a1, h1⟩
/-! ### argument lists -/
def nilA : En → M (List D) := fun _ => M.pure []
def consA (fa : En → M D) (fr : En → M (List D)) : En → M (List D) := fun σ => fa σ >>= fun x => fr σ >>= fun xs => M.pure (x :: xs)
variable {es : List Expr} {fr : En → M (List D)}
theorem sa_nil : SA X G W [] nilA := pa_imp pa_nil fun σ H Q ⟨σd, S, μ, at_, h⟩ => (Post.here at_.lnk h) [] rfl
theorem sa_cons (ha : SE X G W a fa) (hr : SA X G W es fr) (hs : starEach (a :: es) X.env = (false, eval a X.env) :: starEach es X.env := by rfl) : SA X G W (a :: es) (consA fa fr) := by
  refine pa_imp (pa_cons ha hr hs) fun σ H Q ⟨σd, S, μ, at_, h⟩ => ?_
  refine rdE_bind (k := fun σ x => fr σ >>= fun xs => M.pure (x :: xs)) at_ h fun d S1 μ1 H1 v s a1 rv h1 => ?_
  refine rdA_bind (k := fun _ xs => M.pure (d :: xs)) a1 h1 fun ds S2 μ2 H2 vs s2 a2 rvs h2 => ?_
  exact (Post.here a2.lnk h2) (v :: vs) ⟨v, vs, rfl, s2.rv a1.lnk rv, rvs⟩
end
end Fd

set_option Elab.async false
set_option linter.all false
set_option maxRecDepth 100000
set_option maxHeartbeats 1000000
namespace Fd
open PySem PySem.Spec PyProof.Rows L2
/-! ### the store's steps -/
section
variable {G : Gx} {μ : Nat → Addr} {S : Sto} {H : Hp}
theorem RVf.mono {μ' : Nat → Addr} {n n' : Nat} {H' : Hp} (g : Grow μ n H μ' n' H') (tf : TupFree μ n H) {fs : List (Str × D)} {vs : List (Str × V)} (h : RVf G μ n H fs vs) : RVf G μ' n' H' fs vs :=
  Paired.mapP h fun _ _ z => ⟨z.1, z.2.mono g tf⟩
theorem LO.mono {μ' : Nat → Addr} {n n' : Nat} {H' : Hp} {b : Bool} {a : Addr} (g : Grow μ n H μ' n' H') (tf : TupFree μ n H) (e : H' a = H a) : ∀ {o : SO}, LO G μ n H b a o → LO G μ' n' H' b a o
  | .lst ds, ⟨vs, h1, h2⟩ => ⟨vs, by unfold Held at *; rw [e]; exact h1, h2.mono g tf⟩
  | .dct t kvs, ⟨vs, o, h1, h2, h3⟩ => ⟨vs, o, by unfold Held at *; rw [e]; exact h1, h2, h3.mono g tf⟩
  | .ins c fs, ⟨dx, fs', h1, h2⟩ => ⟨dx, fs', by rw [e]; exact h1, RVf.mono g tf h2⟩
/-- a new object that is not of the store -/
theorem Stp.new (L : Lnk G μ S H) {p : Addr} {o : HO} (hp : H p = none) : Stp G μ S H μ S (upd H p o) := by
  have g : Grow μ S.n H μ S.n (upd H p o) := by
    refine ⟨.refl _ _, fun l h1 h2 => absurd h2 (by omega), fun a u e _ _ => ?_, fun a od u e => ?_, fun a u e nt => ?_⟩
    · rw [upd_ne (ne_of_none e hp)]; exact e
    · rw [upd_ne (ne_of_none e hp)]; exact e
    · exact ⟨u, by rw [upd_ne (ne_of_none e hp)]; exact e, nt⟩
  refine ⟨⟨L.inj, fun l u e => ?_, G.tst _ _ (fun b u e _ => by rw [upd_ne (ne_of_none e hp)]; exact e) L.tab, L.lk⟩, g⟩
  have h := L.ob l u e
  obtain ⟨w, hw, _⟩ := h.hd
  exact h.mono g L.tf (upd_ne (ne_of_none hw hp))
def putMu (μ : Nat → Addr) (n : Nat) (p : Addr) : Nat → Addr := fun l => if l = n then p else μ l
theorem putMu_same {n : Nat} {p : Addr} : putMu μ n p n = p := if_pos rfl
theorem putMu_ne {n l : Nat} {p : Addr} (h : l ≠ n) : putMu μ n p l = μ l := if_neg h
abbrev Sto.push (S : Sto) (o : SO) : Sto := { S with objs := S.objs ++ [o] }
theorem Sto.push_n (o : SO) : (S.push o).n = S.n + 1 := by
  show (S.objs ++ [o]).length = _
  rw [List.length_append]; rfl
theorem grow_own (L : Lnk G μ S H) {p : Addr} {u : HO} (hp : H p = none) : Grow μ S.n H (putMu μ S.n p) (S.n + 1) (upd H p u) := by
  refine ⟨⟨Nat.le_succ _, fun l hl => putMu_ne (Nat.ne_of_lt hl)⟩, fun l h1 h2 o e => ?_, fun a u e _ _ => ?_, fun a od u e => ?_, fun a u e nt => ?_⟩
  · have : l = S.n := by omega
    subst this
    rw [putMu_same, hp] at e; cases e
  · rw [upd_ne (ne_of_none e hp)]; exact e
  · rw [upd_ne (ne_of_none e hp)]; exact e
  · exact ⟨u, by rw [upd_ne (ne_of_none e hp)]; exact e, nt⟩
/-- a new object of the store -/
theorem Stp.own (L : Lnk G μ S H) {p : Addr} {u : HO} {o : SO} (hp : H p = none) (h : LO G (putMu μ S.n p) (S.n + 1) (upd H p u) false p o) : Stp G μ S H (putMu μ S.n p) (S.push o) (upd H p u) := by
  have g := grow_own (u := u) L hp
  have lt : ∀ l, l < (S.push o).n → l < S.n ∨ l = S.n := fun l hl => by rw [Sto.push_n] at hl; omega
  have noP : ∀ l, l < S.n → μ l ≠ p := fun l hl e => by
    obtain ⟨o1, e1⟩ := getE_of_lt hl
    obtain ⟨w, hw, _⟩ := (L.ob l o1 e1).hd
    rw [e, hp] at hw; cases hw
  refine ⟨⟨fun l hl l' hl' e => ?_, fun l ob e => ?_, G.tst _ _ (fun b u e _ => by rw [upd_ne (ne_of_none e hp)]; exact e) L.tab, fun l hl => ?_⟩, by rw [Sto.push_n]; exact g⟩
  · rcases lt l hl with h1 | h1 <;> rcases lt l' hl' with h2 | h2
    · rw [putMu_ne (Nat.ne_of_lt h1), putMu_ne (Nat.ne_of_lt h2)] at e
      exact L.inj l h1 l' h2 e
    · rw [putMu_ne (Nat.ne_of_lt h1), h2, putMu_same] at e
      exact absurd e (noP l h1)
    · rw [h1, putMu_same, putMu_ne (Nat.ne_of_lt h2)] at e
      exact absurd e.symm (noP l' h2)
    · rw [h1, h2]
  · rw [Sto.push_n]
    by_cases hl : l < S.n
    · have e' : S.objs[l]? = some ob := by
        have z : (S.objs ++ [o])[l]? = some ob := e
        rwa [List.getElem?_append_left hl] at z
      rw [putMu_ne (Nat.ne_of_lt hl)]
      have h := L.ob l ob e'
      obtain ⟨w, hw, _⟩ := h.hd
      exact h.mono g L.tf (upd_ne (ne_of_none hw hp))
    · have hl2 : l = S.n := by
        have z := (List.getElem?_eq_some_iff.mp e).1
        have z : l < (S.push o).n := z
        rw [Sto.push_n] at z; omega
      subst hl2
      have e' : o = ob := by
        have z : (S.objs ++ [o])[S.objs.length]? = some ob := e
        simpa using z
      subst e'
      have nl : (S.push o).locked S.n = false := by
        cases q : (S.push o).locked S.n with
        | false => rfl
        | true =>
          have z : S.n ∈ S.lck := by simpa [Sto.locked] using q
          exact absurd (L.lk _ z) (Nat.lt_irrefl _)
      rw [nl, putMu_same]
      exact h
  · rw [Sto.push_n]
    exact Nat.lt_succ_of_lt (L.lk l hl)
abbrev Sto.put (S : Sto) (l : Nat) (o : SO) : Sto := { S with objs := S.objs.set l o }
theorem Sto.put_n (l : Nat) (o : SO) : (S.put l o).n = S.n := by
  show (S.objs.set l o).length = _
  rw [List.length_set]
theorem grow_put (L : Lnk G μ S H) {l : Nat} {u : HO} {w : HO} (hl : l < S.n) (hw : H (μ l) = some w) (nf : ∀ od z, w ≠ .frz od z) (nt : ∀ ps, u ≠ .tbl ps) : Grow μ S.n H μ S.n (upd H (μ l) u) := by
  refine ⟨.refl _ _, fun i h1 h2 => absurd h2 (by omega), fun a z e na _ => ?_, fun a od z e => ?_, fun a z e ntz => ?_⟩
  · rw [upd_ne (fun q => na l hl q.symm)]; exact e
  · rw [upd_ne (fun q => by rw [q, hw] at e; cases e; exact nf _ _ rfl)]; exact e
  · by_cases q : a = μ l
    · exact ⟨u, by rw [q, upd_same], nt⟩
    · exact ⟨z, by rw [upd_ne q]; exact e, ntz⟩
/-- an object of the store changed -/
theorem Stp.put (L : Lnk G μ S H) {l : Nat} {u w : HO} {o : SO} (hl : l < S.n) (hk : S.locked l = false) (hw : H (μ l) = some w) (nf : ∀ od z, w ≠ .frz od z) (nt : ∀ ps, w ≠ .tbl ps) (nx : ∀ φ, w ≠ .ext φ) (nu : ∀ ps, u ≠ .tbl ps)
    (h : LO G μ S.n (upd H (μ l) u) false (μ l) o) : Stp G μ S H μ (S.put l o) (upd H (μ l) u) := by
  have g := grow_put (u := u) L hl hw nf nu
  refine ⟨⟨fun i hi j hj e => L.inj i (by rwa [Sto.put_n] at hi) j (by rwa [Sto.put_n] at hj) e, fun i ob e => ?_, G.tst _ _ (fun b z e hz => ?_) L.tab, fun i hi => by rw [Sto.put_n]; exact L.lk i hi⟩, by rw [Sto.put_n]; exact g⟩
  · rw [Sto.put_n]
    have e : (S.objs.set l o)[i]? = some ob := e
    by_cases hi : l = i
    · subst hi
      rw [List.getElem?_set_self hl] at e
      cases e
      show LO G μ S.n _ (S.locked l) _ _
      rw [hk]; exact h
    · rw [List.getElem?_set_ne hi] at e
      have hli : i < S.n := (List.getElem?_eq_some_iff.mp e).1
      exact (L.ob i ob e).mono g L.tf (upd_ne fun q => hi (L.inj i hli l hl q).symm)
  · rw [upd_ne (fun q => ?_)]
    · exact e
    · rw [q, hw] at e
      cases e
      rcases hz with ⟨ps, rfl⟩ | ⟨φ, rfl⟩
      · exact nt _ rfl
      · exact nx _ rfl
end
end Fd

set_option Elab.async false
set_option linter.all false
set_option maxRecDepth 100000
set_option maxHeartbeats 1000000
namespace Fd
open PySem PySem.Spec PyProof.Rows L2
section
variable {G : Gx} {μ : Nat → Addr} {S : Sto} {H : Hp}
/-! ### what is read -/
/-- a list, of the store or not -/
def seqL (S : Sto) : D → Option (List D)
  | .lst ds => some ds
  | .ref l => match S.objs[l]? with
    | some (.lst ds) => some ds
    | _ => none
  | _ => none
theorem seqL_ok (L : Lnk G μ S H) {d : D} {v : V} {ds : List D} (r : RV G μ S.n H d v) (e : seqL S d = some ds) : ∃ a vs, v = .ref a ∧ Rd H a (.lst vs) ∧ RVs G μ S.n H ds vs := by
  cases d with
  | lst xs =>
    cases e
    obtain ⟨a, vs, h1, _, h3, h4⟩ := r
    exact ⟨a, vs, h1, .inl h3, h4⟩
  | ref l =>
    obtain ⟨h1, h2⟩ := r
    obtain ⟨o, eo⟩ := getE_of_lt h1
    have e : (match S.objs[l]? with | some (.lst ds) => some ds | _ => none) = some ds := e
    rw [eo] at e
    cases o with
    | lst xs =>
      cases e
      obtain ⟨vs, q1, q2⟩ := L.ob l _ eo
      exact ⟨_, vs, h2, q1.rd, q2⟩
    | dct _ _ => cases e
    | ins _ _ => cases e
  | _ => cases e
/-- .. that is not locked -/
def seqU (S : Sto) : D → Option (List D)
  | .lst ds => some ds
  | .ref l => if S.locked l = true then none else match S.objs[l]? with
    | some (.lst ds) => some ds
    | _ => none
  | _ => none
theorem seqU_ok (L : Lnk G μ S H) {d : D} {v : V} {ds : List D} (r : RV G μ S.n H d v) (e : seqU S d = some ds) : ∃ a vs, v = .ref a ∧ H a = some (.lst vs) ∧ RVs G μ S.n H ds vs := by
  cases d with
  | lst xs =>
    cases e
    obtain ⟨a, vs, h1, _, h3, h4⟩ := r
    exact ⟨a, vs, h1, h3, h4⟩
  | ref l =>
    obtain ⟨h1, h2⟩ := r
    obtain ⟨o, eo⟩ := getE_of_lt h1
    have e : (if S.locked l = true then none else match S.objs[l]? with | some (.lst ds) => some ds | _ => none) = some ds := e
    rw [eo] at e
    by_cases hl : S.locked l = true
    · rw [if_pos hl] at e; cases e
    · rw [if_neg hl] at e
      cases o with
      | lst xs =>
        cases e
        obtain ⟨vs, q1, q2⟩ := L.ob l _ eo
        refine ⟨_, vs, h2, ?_, q2⟩
        have hf : S.locked l = false := by simpa using hl
        rw [hf] at q1
        exact q1
      | dct _ _ => cases e
      | ins _ _ => cases e
  | _ => cases e
def tupD : D → Option (List D)
  | .tup ds => some ds
  | .kt ds => some ds
  | _ => none
theorem tupD_ok {n : Nat} {d : D} {v : V} {ds : List D} (r : RV G μ n H d v) (e : tupD d = some ds) : ∃ a vs, v = .ref a ∧ SqT G.K H a vs ∧ RVs G μ n H ds vs := by
  cases d with
  | tup xs =>
    cases e
    obtain ⟨a, vs, h1, h2, h3⟩ := r
    exact ⟨a, vs, h1, .of h2, h3⟩
  | kt xs =>
    cases e
    obtain ⟨a, vs, h1, h2, h3⟩ := r
    exact ⟨a, vs, h1, .inr h2, h3⟩
  | _ => cases e
theorem notOwn_new (L : Lnk G μ S H) {p : Addr} (hp : H p = none) : NotOwn μ S.n p := fun l hl e => by
  obtain ⟨o, eo⟩ := getE_of_lt hl
  obtain ⟨w, hw, _⟩ := (L.ob l o eo).hd
  rw [e, hp] at hw; cases hw
/-! ### new things -/
theorem new_tup (L : Lnk G μ S H) {p : Addr} {ds : List D} {vs : List V} (hp : H p = none) (r : RVs G μ S.n H ds vs) : RV G μ S.n (upd H p (.tup vs)) (.tup ds) (.ref p) :=
  ⟨p, vs, rfl, upd_same, r.mono (Stp.new L hp).grow L.tf⟩
theorem new_lst (L : Lnk G μ S H) {p : Addr} {ds : List D} {vs : List V} (hp : H p = none) (r : RVs G μ S.n H ds vs) : RV G μ S.n (upd H p (.lst vs)) (.lst ds) (.ref p) :=
  ⟨p, vs, rfl, notOwn_new L hp, upd_same, r.mono (Stp.new L hp).grow L.tf⟩
theorem own_lst (L : Lnk G μ S H) {p : Addr} {ds : List D} {vs : List V} (hp : H p = none) (r : RVs G μ S.n H ds vs) : Stp G μ S H (putMu μ S.n p) (S.push (.lst ds)) (upd H p (.lst vs)) :=
  Stp.own L hp ⟨vs, upd_same, r.mono (grow_own L hp) L.tf⟩
theorem rv_own {p : Addr} {o : SO} {H' : Hp} : RV G (putMu μ S.n p) (S.push o).n H' (.ref S.n) (.ref p) := ⟨by rw [Sto.push_n]; exact Nat.lt_succ_self _, by rw [putMu_same]⟩
theorem Post.step {α : Type} {W : XK} {Q : α → Sto → (Nat → Addr) → Hp → Prop} {a : α} {S' : Sto} {μ' : Nat → Addr} {H' : Hp} (s : Stp G μ S H μ' S' H') (h : Post G μ S H W Q (.ok a S')) : Q a S' μ' H' := h μ' H' s
end

section
variable {X : Cx} {G : Gx} {W : XK} {es : List Expr} {fr : En → M (List D)} {pos : Pos}
/-! ### displays -/
def tupV (fr : En → M (List D)) : En → M D := fun σ => fr σ >>= fun ds => if ds.length ≤ sizeLine then M.pure (D.tup ds) else M.stk
def lstV (fr : En → M (List D)) : En → M D := fun σ => fr σ >>= fun ds => if ds.length ≤ sizeLine then M.pure (D.lst ds) else M.stk
/-- a new list of the store -/
def newL (ds : List D) : M D := fun S => .ok (.ref S.n) (S.push (.lst ds))
def lstO (fr : En → M (List D)) : En → M D := fun σ => fr σ >>= fun ds => if ds.length ≤ sizeLine then newL ds else M.stk
theorem se_tup {x1} (h : SA X G W es fr) : SE X G W (.Tuple es x1 pos) (tupV fr) := by
  refine pe_imp (pe_tup h) fun σ H Q ⟨σd, S, μ, at_, q⟩ => ?_
  refine rdA_bind (k := fun _ ds => if ds.length ≤ sizeLine then M.pure (D.tup ds) else M.stk) at_ q fun ds S1 μ1 H1 vs s a1 r h1 => ?_
  by_cases hz : ds.length ≤ sizeLine
  · rw [if_pos hz] at h1
    exact ⟨by rw [← r.length]; exact hz, fun p hp => Post.step (Stp.new a1.lnk hp) h1 _ (new_tup a1.lnk hp r)⟩
  · rw [if_neg hz] at h1; exact h1.elim
theorem se_lstV (h : SA X G W es fr) : SE X G W (.List es pos) (lstV fr) := by
  refine pe_imp (pe_lst h) fun σ H Q ⟨σd, S, μ, at_, q⟩ => ?_
  refine rdA_bind (k := fun _ ds => if ds.length ≤ sizeLine then M.pure (D.lst ds) else M.stk) at_ q fun ds S1 μ1 H1 vs s a1 r h1 => ?_
  by_cases hz : ds.length ≤ sizeLine
  · rw [if_pos hz] at h1
    exact ⟨by rw [← r.length]; exact hz, fun p hp => Post.step (Stp.new a1.lnk hp) h1 _ (new_lst a1.lnk hp r)⟩
  · rw [if_neg hz] at h1; exact h1.elim
theorem se_lstO (h : SA X G W es fr) : SE X G W (.List es pos) (lstO fr) := by
  refine pe_imp (pe_lst h) fun σ H Q ⟨σd, S, μ, at_, q⟩ => ?_
  refine rdA_bind (k := fun _ ds => if ds.length ≤ sizeLine then newL ds else M.stk) at_ q fun ds S1 μ1 H1 vs s a1 r h1 => ?_
  by_cases hz : ds.length ≤ sizeLine
  · rw [if_pos hz] at h1
    exact ⟨by rw [← r.length]; exact hz, fun p hp => Post.step (own_lst a1.lnk hp r) h1 _ rv_own⟩
  · rw [if_neg hz] at h1; exact h1.elim

/-! ### operators on values -/
theorem opD_or {f : Value → Value → Sem Value} {o o' : D → D → M D} (h : OpD X G W f o) (h' : OpD X G W f o') (c : D → D → Bool) : OpD X G W f (fun x y => if c x y = true then o x y else o' x y) := fun pins s σ H x y v u Q I rx ry ⟨d, e, S, μ, L, r1, r2, p⟩ => by
  have p : Post G μ S H W (fun d S' μ' H' => ∀ v, RV G μ' S'.n H' d v → Q v H') ((if c d e = true then o d e else o' d e) S) := p
  by_cases hc : c d e = true
  · rw [if_pos hc] at p
    exact h pins s σ H x y v u Q I rx ry ⟨d, e, S, μ, L, r1, r2, p⟩
  · rw [if_neg hc] at p
    exact h' pins s σ H x y v u Q I rx ry ⟨d, e, S, μ, L, r1, r2, p⟩
/-- two ints -/
def ii (C : Int → Int → Bool) (g : Int → Int → D) : D → D → M D := fun x y => match x, y with
  | .int i, .int j => if C i j = true then M.pure (g i j) else M.stk
  | _, _ => M.stk
theorem rd_ii {C : Int → Int → Bool} {C' : Int → Int → Prop} {g : Int → Int → D} {g' : Int → Int → V} (hC : ∀ i j, C i j = true → C' i j) (hg : ∀ i j μ n H, RV G μ n H (g i j) (g' i j)) : ∀ x y H Q, rd2 G W (ii C g) x y H Q → rI C' g' x y H Q := fun x y H Q ⟨d, e, S, μ, L, r1, r2, p⟩ => by
  unfold ii at p
  cases d with
  | int i =>
    cases e with
    | int j =>
      have r1 : x = .int i := r1
      have r2 : y = .int j := r2
      subst r1 r2
      by_cases hc : C i j = true
      · simp only [hc, if_true] at p
        exact ⟨i, j, rfl, rfl, hC i j hc, (Post.here L p) _ (hg _ _ _ _ _)⟩
      · simp only [hc, if_false] at p
        exact p.elim
    | _ => exact p.elim
  | _ => exact p.elim
theorem rd_ii0 {g : Int → Int → D} {g' : Int → Int → V} (hg : ∀ i j μ n H, RV G μ n H (g i j) (g' i j)) : ∀ x y H Q, rd2 G W (ii (fun _ _ => true) g) x y H Q → rI0 g' x y H Q := fun x y H Q h => by
  obtain ⟨i, j, e1, e2, _, q⟩ := rd_ii (C' := fun _ _ => True) (fun _ _ _ => True.intro) hg x y H Q h
  exact ⟨i, j, e1, e2, q⟩
def addI : D → D → M D := ii (fun _ _ => true) fun i j => .int (i + j)
def subI : D → D → M D := ii (fun _ _ => true) fun i j => .int (i - j)
def mulI : D → D → M D := ii (fun i j => (decide (-(2 ^ 64) < i) && decide (i < 2 ^ 64)) || (decide (-(2 ^ 64) < j) && decide (j < 2 ^ 64))) fun i j => .int (i * j)
def modI : D → D → M D := ii (fun _ j => decide (0 < j)) fun i j => .int (i % j)
def fdvI : D → D → M D := ii (fun _ j => decide (0 < j) && decide (j < 1073741824)) fun i j => .int (i / j)
def ltI : D → D → M D := ii (fun _ _ => true) fun i j => .bl (decide (i < j))
def leI : D → D → M D := ii (fun _ _ => true) fun i j => .bl (decide (i ≤ j))
def gtI : D → D → M D := ii (fun _ _ => true) fun i j => .bl (decide (j < i))
def geI : D → D → M D := ii (fun _ _ => true) fun i j => .bl (decide (j ≤ i))
theorem od_addI : OpD X G W (binaryOp .Add) addI := opR_imp op_add (rd_ii0 fun _ _ _ _ _ => rfl)
theorem od_subI : OpD X G W (binaryOp .Sub) subI := opR_imp op_sub (rd_ii0 fun _ _ _ _ _ => rfl)
theorem od_mulI : OpD X G W (binaryOp .Mult) mulI := opR_imp op_mul (rd_ii (fun i j h => by
  simp only [Bool.or_eq_true, Bool.and_eq_true, decide_eq_true_eq] at h
  exact h) fun _ _ _ _ _ => rfl)
theorem od_modI : OpD X G W (binaryOp .Mod) modI := opR_imp op_mod (rd_ii (fun _ _ h => of_decide_eq_true h) fun _ _ _ _ _ => rfl)
theorem od_fdvI : OpD X G W (binaryOp .FloorDiv) fdvI := opR_imp op_fdiv (rd_ii (fun i j h => by
  simp only [Bool.and_eq_true, decide_eq_true_eq] at h
  exact h) fun _ _ _ _ _ => rfl)
theorem od_ltI : OpD X G W (compareOp .Lt) ltI := opR_imp op_lt (rd_ii0 fun _ _ _ _ _ => rfl)
theorem od_leI : OpD X G W (compareOp .LtE) leI := opR_imp op_le (rd_ii0 fun _ _ _ _ _ => rfl)
theorem od_gtI : OpD X G W (compareOp .Gt) gtI := opR_imp op_gt (rd_ii0 fun _ _ _ _ _ => rfl)
theorem od_geI : OpD X G W (compareOp .GtE) geI := opR_imp op_ge (rd_ii0 fun _ _ _ _ _ => rfl)
def iaddI : D → D → M D := addI
theorem od_iaddI : OpD X G W (inplaceOp .Add) addI := opR_imp iop_add (rd_ii0 fun _ _ _ _ _ => rfl)
theorem od_isubI : OpD X G W (inplaceOp .Sub) subI := opR_imp iop_sub (rd_ii0 fun _ _ _ _ _ => rfl)
/-- texts -/
def addS : D → D → M D := fun x y => match x, y with
  | .str i, .str j => if i.length + j.length ≤ sizeLine then M.pure (.str (i ++ j)) else M.stk
  | _, _ => M.stk
theorem od_addS : OpD X G W (binaryOp .Add) addS := opR_imp op_add_str fun x y H Q ⟨d, e, S, μ, L, r1, r2, p⟩ => by
  unfold addS at p
  cases d with
  | str i =>
    cases e with
    | str j =>
      have r1 : x = .str i := r1
      have r2 : y = .str j := r2
      subst r1 r2
      by_cases hc : i.length + j.length ≤ sizeLine
      · simp only [hc, if_true] at p
        exact ⟨i, j, rfl, rfl, hc, (Post.here L p) _ rfl⟩
      · simp only [hc, if_false] at p
        exact p.elim
    | _ => exact p.elim
  | _ => exact p.elim
theorem RVs.append {μ : Nat → Addr} {n : Nat} {H : Hp} : ∀ {ds es : List D} {vs us : List V}, RVs G μ n H ds vs → RVs G μ n H es us → RVs G μ n H (ds ++ es) (vs ++ us)
  | [], _, _, _, h, h' => by
    have h : _ = _ := h
    subst h; exact h'
  | d :: ds, es, _, us, ⟨v, r, e, h1, h2⟩, h' => by
    subst e
    exact ⟨v, r ++ us, rfl, h1, RVs.append h2 h'⟩
/-- lists -/
def addL : D → D → M D := fun x y S => match seqU S x, seqU S y with
  | some xs, some ys => if xs.length + ys.length ≤ sizeLine then .ok (.lst (xs ++ ys)) S else .stk
  | _, _ => .stk
theorem od_addL : OpD X G W (binaryOp .Add) addL := opR_imp op_cat fun x y H Q ⟨d, e, S, μ, L, r1, r2, p⟩ => by
  unfold addL at p
  cases e1 : seqU S d with
  | none => rw [e1] at p; exact p.elim
  | some xs =>
    cases e2 : seqU S e with
    | none => rw [e1, e2] at p; exact p.elim
    | some ys =>
      rw [e1, e2] at p
      obtain ⟨a, vs, rfl, h1, q1⟩ := seqU_ok L r1 e1
      obtain ⟨b, us, rfl, h2, q2⟩ := seqU_ok L r2 e2
      by_cases hc : xs.length + ys.length ≤ sizeLine
      · simp only [hc, if_true] at p
        exact ⟨a, b, vs, us, rfl, rfl, h1, h2, by rw [← q1.length, ← q2.length]; exact hc, fun q hq => Post.step (Stp.new L hq) p _ (new_lst L hq (q1.append q2))⟩
      · simp only [hc, if_false] at p
        exact p.elim
/-- tuples -/
def addT : D → D → M D := fun x y => match x, y with
  | .tup xs, .tup ys => if xs.length + ys.length ≤ sizeLine then M.pure (.tup (xs ++ ys)) else M.stk
  | _, _ => M.stk
theorem od_addT : OpD X G W (binaryOp .Add) addT := opR_imp op_catA fun x y H Q ⟨d, e, S, μ, L, r1, r2, p⟩ => by
  unfold addT at p
  cases d with
  | tup xs =>
    cases e with
    | tup ys =>
      obtain ⟨a, vs, rfl, h1, q1⟩ := r1
      obtain ⟨b, us, rfl, h2, q2⟩ := r2
      by_cases hc : xs.length + ys.length ≤ sizeLine
      · simp only [hc, if_true] at p
        refine ⟨a, b, vs, us, rfl, rfl, .of h1, .of h2, by rw [← q1.length, ← q2.length]; exact hc, fun e0 => ?_, fun _ e0 => ?_, fun _ _ p' hp => ?_⟩
        · subst e0
          have : xs = [] := List.eq_nil_of_length_eq_zero (by rw [q1.length]; rfl)
          subst this
          exact (Post.here L p) _ ⟨b, us, rfl, h2, q2⟩
        · subst e0
          have : ys = [] := List.eq_nil_of_length_eq_zero (by rw [q2.length]; rfl)
          subst this
          rw [List.append_nil] at p
          exact (Post.here L p) _ ⟨a, vs, rfl, h1, q1⟩
        · exact Post.step (Stp.new L hp) p _ (new_tup L hp (q1.append q2))
      · simp only [hc, if_false] at p
        exact p.elim
    | _ => exact p.elim
  | _ => exact p.elim
/-- is None -/
def isNonD : D → Bool
  | .non => true
  | _ => false
def isN : D → D → M D := fun x y => match y with
  | .non => M.pure (.bl (isNonD x))
  | _ => M.stk
def isnotN : D → D → M D := fun x y => match y with
  | .non => M.pure (.bl (!isNonD x))
  | _ => M.stk
theorem rv_non {μ : Nat → Addr} {n : Nat} {H : Hp} {d : D} {v : V} (r : RV G μ n H d v) : decide (v = .non) = isNonD d := by
  cases d with
  | non => exact decide_eq_true r
  | bl _ => exact decide_eq_false fun e => by rw [e] at r; cases r
  | int _ => exact decide_eq_false fun e => by rw [e] at r; cases r
  | str _ => exact decide_eq_false fun e => by rw [e] at r; cases r
  | tup _ => obtain ⟨_, _, e, _⟩ := r; subst e; exact decide_eq_false fun e => by cases e
  | lst _ => obtain ⟨_, _, e, _⟩ := r; subst e; exact decide_eq_false fun e => by cases e
  | kt _ => obtain ⟨_, _, e, _⟩ := r; subst e; exact decide_eq_false fun e => by cases e
  | dct _ _ => obtain ⟨_, _, _, _, e, _⟩ := r; subst e; exact decide_eq_false fun e => by cases e
  | ref _ => obtain ⟨_, e⟩ := r; subst e; exact decide_eq_false fun e => by cases e
  | kl _ => obtain ⟨_, _, e, _⟩ := r; subst e; exact decide_eq_false fun e => by cases e
  | lam _ => obtain ⟨_, _, _, _, e, _⟩ := r; subst e; exact decide_eq_false fun e => by cases e
theorem od_isN : OpD X G W (compareOp .Is) isN := opR_imp op_isN fun x y H Q ⟨d, e, S, μ, L, r1, r2, p⟩ => by
  unfold isN at p
  cases e with
  | non =>
    refine ⟨r2, (Post.here L p) _ ?_⟩
    show _ = _
    rw [rv_non r1]
  | _ => exact p.elim
theorem od_isnotN : OpD X G W (compareOp .IsNot) isnotN := opR_imp op_notN fun x y H Q ⟨d, e, S, μ, L, r1, r2, p⟩ => by
  unfold isnotN at p
  cases e with
  | non =>
    refine ⟨r2, (Post.here L p) _ ?_⟩
    show _ = _
    rw [rv_non r1]
  | _ => exact p.elim
end
end Fd

set_option Elab.async false
set_option linter.all false
set_option maxRecDepth 100000
set_option maxHeartbeats 1000000
namespace Fd
open PySem PySem.Spec PyProof.Rows L2
/-! ### data without dicts, as the library has them -/
def toPy (S : Sto) : Nat → D → Option PyData
  | _, .non => some .none
  | _, .bl b => some (.bool b)
  | _, .int i => some (.int i)
  | _, .str x => some (.str x)
  | n + 1, .tup ds => (ds.mapM (toPy S n)).map .tuple
  | n + 1, .kt ds => (ds.mapM (toPy S n)).map .tuple
  | n + 1, .lst ds => (ds.mapM (toPy S n)).map .list
  | n + 1, .ref l => match S.objs[l]? with
    | some (.lst ds) => (ds.mapM (toPy S n)).map .list
    | _ => none
  | _, _ => none
section
variable {G : Gx} {μ : Nat → Addr} {S : Sto} {H : Hp}
theorem toPys_ok {n : Nat} (ih : ∀ d v py, RV G μ S.n H d v → toPy S n d = some py → Dp G.K H v py ∧ py.plain = true ∧ py.depth ≤ n) : ∀ (ds : List D) (vs : List V) (pys : List PyData), RVs G μ S.n H ds vs → ds.mapM (toPy S n) = some pys →
    DpAll G.K H vs pys ∧ PyData.plainAll pys = true ∧ PyData.depthAll pys ≤ n
  | [], vs, pys, r, e => by
    have r : vs = [] := r
    subst r
    rw [List.mapM_nil] at e
    cases e
    exact ⟨.nil, rfl, Nat.zero_le _⟩
  | d :: ds, vs, pys, r, e => by
    obtain ⟨v, r', rfl, h1, h2⟩ := r
    rw [List.mapM_cons] at e
    cases e1 : toPy S n d with
    | none => rw [e1] at e; cases e
    | some py =>
      cases e2 : ds.mapM (toPy S n) with
      | none => rw [e1, e2] at e; cases e
      | some ps =>
        rw [e1, e2] at e
        have e : some (py :: ps) = some pys := e
        cases e
        obtain ⟨a1, a2, a3⟩ := ih d v py h1 e1
        obtain ⟨b1, b2, b3⟩ := toPys_ok ih ds r' ps h2 e2
        refine ⟨.cons a1 b1, ?_, ?_⟩
        · show (py.plain && PyData.plainAll ps) = true
          rw [a2, b2]; rfl
        · show max py.depth (PyData.depthAll ps) ≤ n
          omega
theorem toPy_ok (L : Lnk G μ S H) : ∀ (n : Nat) (d : D) (v : V) (py : PyData), RV G μ S.n H d v → toPy S n d = some py → Dp G.K H v py ∧ py.plain = true ∧ py.depth ≤ n := by
  intro n
  induction n with
  | zero =>
    intro d v py r e
    cases d with
    | non => cases e; cases (show v = .non from r); exact ⟨.non, rfl, Nat.le_refl _⟩
    | bl b => cases e; cases (show v = .bl b from r); exact ⟨.bl b, rfl, Nat.le_refl _⟩
    | int b => cases e; cases (show v = .int b from r); exact ⟨.int b, rfl, Nat.le_refl _⟩
    | str b => cases e; cases (show v = .str b from r); exact ⟨.str b, rfl, Nat.le_refl _⟩
    | _ => cases e
  | succ n ih =>
    intro d v py r e
    cases d with
    | non => cases e; cases (show v = .non from r); exact ⟨.non, rfl, Nat.zero_le _⟩
    | bl b => cases e; cases (show v = .bl b from r); exact ⟨.bl b, rfl, Nat.zero_le _⟩
    | int b => cases e; cases (show v = .int b from r); exact ⟨.int b, rfl, Nat.zero_le _⟩
    | str b => cases e; cases (show v = .str b from r); exact ⟨.str b, rfl, Nat.zero_le _⟩
    | tup ds =>
      have e : (ds.mapM (toPy S n)).map PyData.tuple = some py := e
      cases e2 : ds.mapM (toPy S n) with
      | none => rw [e2] at e; cases e
      | some ps =>
        rw [e2] at e
        cases e
        obtain ⟨a, vs, rfl, h1, h2⟩ := r
        obtain ⟨b1, b2, b3⟩ := toPys_ok ih ds vs ps h2 e2
        exact ⟨.tup (.of h1) b1, b2, Nat.succ_le_succ b3⟩
    | kt ds =>
      have e : (ds.mapM (toPy S n)).map PyData.tuple = some py := e
      cases e2 : ds.mapM (toPy S n) with
      | none => rw [e2] at e; cases e
      | some ps =>
        rw [e2] at e
        cases e
        obtain ⟨a, vs, rfl, h1, h2⟩ := r
        obtain ⟨b1, b2, b3⟩ := toPys_ok ih ds vs ps h2 e2
        exact ⟨.tup (.inr h1) b1, b2, Nat.succ_le_succ b3⟩
    | lst ds =>
      have e : (ds.mapM (toPy S n)).map PyData.list = some py := e
      cases e2 : ds.mapM (toPy S n) with
      | none => rw [e2] at e; cases e
      | some ps =>
        rw [e2] at e
        cases e
        obtain ⟨a, vs, rfl, _, h1, h2⟩ := r
        obtain ⟨b1, b2, b3⟩ := toPys_ok ih ds vs ps h2 e2
        exact ⟨.lst (.of h1) b1, b2, Nat.succ_le_succ b3⟩
    | ref l =>
      obtain ⟨h1, h2⟩ := r
      obtain ⟨o, eo⟩ := getE_of_lt h1
      have e : (match S.objs[l]? with | some (.lst ds) => (ds.mapM (toPy S n)).map PyData.list | _ => none) = some py := e
      rw [eo] at e
      cases o with
      | lst ds =>
        have e : (ds.mapM (toPy S n)).map PyData.list = some py := e
        cases e2 : ds.mapM (toPy S n) with
        | none => rw [e2] at e; cases e
        | some ps =>
          rw [e2] at e
          cases e
          subst h2
          obtain ⟨vs, q1, q2⟩ := L.ob l _ eo
          obtain ⟨b1, b2, b3⟩ := toPys_ok ih ds vs ps q2 e2
          exact ⟨.lst (.inl q1.rd) b1, b2, Nat.succ_le_succ b3⟩
      | dct _ _ => cases e
      | ins _ _ => cases e
    | dct _ _ => cases e
    | lam _ => cases e
    | kl _ => cases e
end
/-- the depth that is looked at -/
abbrev py (S : Sto) (d : D) : Option PyData := toPy S 12 d
def eqD : D → D → M D := fun x y S => match py S x, py S y with
  | some a, some b => .ok (.bl (PyData.eqv a b)) S
  | _, _ => .stk
def neD : D → D → M D := fun x y S => match py S x, py S y with
  | some a, some b => .ok (.bl (!PyData.eqv a b)) S
  | _, _ => .stk
def ltP (a b : PyData) : Bool := PySem.W.alike a b && !(match a with | .none => true | _ => false)
def ltD : D → D → M D := fun x y S => match py S x, py S y with
  | some a, some b => if ltP a b = true then .ok (.bl (PySem.W.dataLt a b)) S else .stk
  | _, _ => .stk
def pyItems : PyData → Option (List PyData)
  | .list xs => some xs
  | .tuple xs => some xs
  | _ => none
def inD : D → D → M D := fun x y S => match py S x, (py S y).bind pyItems with
  | some a, some bs => .ok (.bl (bs.any fun z => PyData.eqv z a)) S
  | _, _ => .stk
def notinD : D → D → M D := fun x y S => match py S x, (py S y).bind pyItems with
  | some a, some bs => .ok (.bl (!bs.any fun z => PyData.eqv z a)) S
  | _, _ => .stk
section
variable {X : Cx} {G : Gx} {W : XK}
theorem rd_py2 {f : Value → Value → Sem Value} {op : D → D → M D} {g : PyData → PyData → Bool} {C : PyData → PyData → Prop} (hK : G.K = X.K)
    (hop : ∀ d e S, match py S d, py S e with | some a, some b => (C a b ∧ op d e S = .ok (.bl (g a b)) S) ∨ op d e S = .stk | _, _ => op d e S = .stk)
    (rule : ∀ (a b : PyData) (pins : List (Addr × Obj)) (s : Shared) (σ : L2.St) (H : Hp) (u v : Value) (as bs : List Addr) (Q : Value → Shared → Prop), Inv X pins σ H s → C a b → Reads s.heap u a as → Reads s.heap v b bs → a.plain = true → b.plain = true → a.depth ≤ 12 → b.depth ≤ 12 → Q (.bool (g a b)) s →
      wpAny (model X.prog X.w) X.A (f u v) Q X.xe s) : OpD X G W f op := by
  intro pins s σ H x y v u Q I rx ry ⟨d, e, S, μ, L, r1, r2, p⟩
  have h := hop d e S
  cases e1 : py S d with
  | none => rw [e1] at h; rw [show op d e S = .stk from h] at p; exact p.elim
  | some a =>
    cases e2 : py S e with
    | none => rw [e1, e2] at h; rw [show op d e S = .stk from h] at p; exact p.elim
    | some b =>
      rw [e1, e2] at h
      rcases h with ⟨c, h⟩ | h
      · rw [h] at p
        obtain ⟨a1, a2, a3⟩ := toPy_ok L 12 d x a r1 e1
        obtain ⟨b1, b2, b3⟩ := toPy_ok L 12 e y b r2 e2
        rw [hK] at a1 b1
        obtain ⟨as, ra⟩ := Dp.reads I a x v a1 rx
        obtain ⟨bs, rb⟩ := Dp.reads I b y u b1 ry
        exact rule a b pins s σ H v u as bs _ I c ra rb a2 b2 a3 b3 ⟨.bl _, H, I, rfl, (Post.here L p) _ rfl⟩
      · rw [h] at p; exact p.elim
theorem od_eqD (hK : G.K = X.K) (hu : X.A.units + 64 < cLine) : OpD X G W (compareOp .Eq) eqD := rd_py2 (C := fun _ _ => True) (g := PyData.eqv) hK (fun d e S => by
    unfold eqD
    cases py S d <;> cases py S e <;> first | rfl | exact .inl ⟨True.intro, rfl⟩)
  fun a b pins s σ H u v as bs Q I _ ra rb pa pb da db hq => SeqAt.eq_plain ra rb pa pb (by omega) hq
theorem od_neD (hK : G.K = X.K) (hu : X.A.units + 64 < cLine) : OpD X G W (compareOp .NotEq) neD := rd_py2 (C := fun _ _ => True) (g := fun a b => !PyData.eqv a b) hK (fun d e S => by
    unfold neD
    cases py S d <;> cases py S e <;> first | rfl | exact .inl ⟨True.intro, rfl⟩)
  fun a b pins s σ H u v as bs Q I _ ra rb pa pb da db hq => SeqAt.ne_plain ra rb pa pb (by omega) hq
theorem od_ltD (hK : G.K = X.K) (hu : X.A.units + 64 < cLine) : OpD X G W (compareOp .Lt) ltD := rd_py2 (C := fun a b => ltP a b = true) (g := PySem.W.dataLt) hK (fun d e S => by
    unfold ltD
    cases py S d with
    | none => rfl
    | some a =>
      cases py S e with
      | none => rfl
      | some b =>
        show (_ ∧ (if ltP a b = true then _ else _) = _) ∨ (if ltP a b = true then _ else _) = _
        by_cases h : ltP a b = true
        · exact .inl ⟨h, by rw [if_pos h]⟩
        · exact .inr (by rw [if_neg h]))
  fun a b pins s σ H u v as bs Q I c ra rb pa pb da db hq => by
    unfold ltP at c
    rw [Bool.and_eq_true] at c
    exact PySem.W.lt_data ra rb c.1 (fun e => by rw [e] at c; exact absurd c.2 (by decide)) (by omega) hq
theorem od_inD (hK : G.K = X.K) (hu : X.A.units + 64 < cLine) : OpD X G W (compareOp .In) inD := rd_py2 (C := fun _ b => ∃ xs, pyItems b = some xs) (g := fun a b => ((pyItems b).getD []).any fun z => PyData.eqv z a) hK (fun d e S => by
    unfold inD
    cases py S d with
    | none => cases h : (py S e) <;> rfl
    | some a =>
      cases py S e with
      | none => rfl
      | some b =>
        show (_ ∧ (match some a, pyItems b with | some a, some bs => _ | _, _ => _) = _) ∨ (match some a, pyItems b with | some a, some bs => _ | _, _ => _) = _
        cases h : pyItems b with
        | none => exact .inr rfl
        | some xs => exact .inl ⟨⟨xs, rfl⟩, rfl⟩)
  fun a b pins s σ H u v as bs Q I c ra rb pa pb da db hq => by
    obtain ⟨xs, e⟩ := c
    cases b with
    | list ys =>
      cases e
      have dd : PyData.depthAll xs + 1 ≤ 12 := db
      exact SeqAt.in_list_data rb ra pb pa (by omega) hq
    | tuple ys =>
      cases e
      have dd : PyData.depthAll xs + 1 ≤ 12 := db
      exact SeqAt.in_tuple_data rb ra pb pa (by omega) hq
    | _ => cases e
theorem od_notinD (hK : G.K = X.K) (hu : X.A.units + 64 < cLine) : OpD X G W (compareOp .NotIn) notinD := rd_py2 (C := fun _ b => ∃ xs, pyItems b = some xs) (g := fun a b => !((pyItems b).getD []).any fun z => PyData.eqv z a) hK (fun d e S => by
    unfold notinD
    cases py S d with
    | none => cases h : (py S e) <;> rfl
    | some a =>
      cases py S e with
      | none => rfl
      | some b =>
        show (_ ∧ (match some a, pyItems b with | some a, some bs => _ | _, _ => _) = _) ∨ (match some a, pyItems b with | some a, some bs => _ | _, _ => _) = _
        cases h : pyItems b with
        | none => exact .inr rfl
        | some xs => exact .inl ⟨⟨xs, rfl⟩, rfl⟩)
  fun a b pins s σ H u v as bs Q I c ra rb pa pb da db hq => by
    obtain ⟨xs, e⟩ := c
    cases b with
    | list ys =>
      cases e
      have dd : PyData.depthAll xs + 1 ≤ 12 := db
      exact SeqAt.notIn_list_data rb ra pb pa (by omega) hq
    | tuple ys =>
      cases e
      have dd : PyData.depthAll xs + 1 ≤ 12 := db
      exact SeqAt.notIn_tuple_data rb ra pb pa (by omega) hq
    | _ => cases e
end
end Fd

set_option Elab.async false
set_option linter.all false
set_option maxRecDepth 100000
set_option maxHeartbeats 1000000
namespace Fd
open PySem PySem.Spec PyProof.Rows L2
/-! ### dicts -/
def val (kvs : List (DK × D)) (k : DK) : Option D := (kvs.find? fun p => decide (p.1 = k)).map (·.2)
def put (kvs : List (DK × D)) (k : DK) (v : D) : List (DK × D) := if (kvs.any fun p => decide (p.1 = k)) = true then kvs.map fun p => if p.1 = k then (p.1, v) else p else kvs ++ [(k, v)]
def drop (kvs : List (DK × D)) (k : DK) : List (DK × D) := kvs.filter fun p => decide (p.1 ≠ k)
def atomK : D → Option Key
  | .int i => some (.inl i)
  | .str x => some (.inr x)
  | _ => none
/-- a datum as a key of such a dict -/
def keyD (t : Bool) (d : D) : Option DK := match t, d with
  | false, d => (atomK d).map .k
  | true, .tup ds => (ds.mapM atomK).map .t
  | _, _ => none
/-- a key as a datum -/
def kD : Key → D
  | .inl i => .int i
  | .inr x => .str x
def dkD : DK → D
  | .k x => kD x
  | .t xs => .tup (xs.map kD)
def dctD (S : Sto) : D → Option (Bool × List (DK × D))
  | .dct t kvs => some (t, kvs)
  | .ref l => match S.objs[l]? with
    | some (.dct t kvs) => some (t, kvs)
    | _ => none
  | _ => none
section
variable {G : Gx} {μ : Nat → Addr} {S : Sto} {H : Hp}
theorem dctD_ok (L : Lnk G μ S H) {d : D} {v : V} {t : Bool} {kvs : List (DK × D)} (r : RV G μ S.n H d v) (e : dctD S d = some (t, kvs)) : ∃ a vs o, v = .ref a ∧ Rd H a o ∧ HOd t vs o ∧ RVk G μ S.n H kvs vs := by
  cases d with
  | dct t' xs =>
    cases e
    obtain ⟨a, vs, od, o, h1, _, h3, h4, h5⟩ := r
    exact ⟨a, vs, o, h1, .inr ⟨od, h3⟩, h4, h5⟩
  | ref l =>
    obtain ⟨h1, h2⟩ := r
    obtain ⟨o, eo⟩ := getE_of_lt h1
    have e : (match S.objs[l]? with | some (.dct t kvs) => some (t, kvs) | _ => none) = some (t, kvs) := e
    rw [eo] at e
    cases o with
    | dct t' xs =>
      cases e
      obtain ⟨vs, o, q1, q2, q3⟩ := L.ob l _ eo
      exact ⟨_, vs, o, h2, q1.rd, q2, q3⟩
    | lst _ => cases e
    | ins _ _ => cases e
  | _ => cases e
theorem atomK_ok {n : Nat} {d : D} {v : V} {k : Key} (r : RV G μ n H d v) (e : atomK d = some k) : v = kV k := by
  cases d with
  | int i => cases e; exact r
  | str x => cases e; exact r
  | _ => cases e
theorem atomKs_ok {n : Nat} : ∀ {ds : List D} {vs : List V} {ks : List Key}, RVs G μ n H ds vs → ds.mapM atomK = some ks → vs = ks.map kV
  | [], vs, ks, r, e => by
    have r : vs = [] := r
    rw [List.mapM_nil] at e
    cases e
    exact r
  | d :: ds, vs, ks, r, e => by
    obtain ⟨v, r', rfl, h1, h2⟩ := r
    rw [List.mapM_cons] at e
    cases e1 : atomK d with
    | none => rw [e1] at e; cases e
    | some k =>
      cases e2 : ds.mapM atomK with
      | none => rw [e1, e2] at e; cases e
      | some ks' =>
        rw [e1, e2] at e
        have e : some (k :: ks') = some ks := e
        cases e
        rw [atomK_ok h1 e1, atomKs_ok h2 e2]; rfl
/-- what a key is in the heap -/
inductive KeyAt (H : Hp) : Bool → DK → V → Prop where
  | k (x : Key) : KeyAt H false (.k x) (kV x)
  | t {b : Addr} (xs : List Key) : H b = some (.tup (xs.map kV)) → KeyAt H true (.t xs) (.ref b)
theorem keyD_ok {n : Nat} {t : Bool} {d : D} {v : V} {k : DK} (r : RV G μ n H d v) (e : keyD t d = some k) : KeyAt H t k v := by
  unfold keyD at e
  cases t with
  | false =>
    have e : (atomK d).map DK.k = some k := by cases d <;> exact e
    cases e1 : atomK d with
    | none => rw [e1] at e; cases e
    | some x =>
      rw [e1] at e
      cases e
      rw [atomK_ok r e1]
      exact .k x
  | true =>
    cases d with
    | tup ds =>
      have e : (ds.mapM atomK).map DK.t = some k := e
      cases e1 : ds.mapM atomK with
      | none => rw [e1] at e; cases e
      | some xs =>
        rw [e1] at e
        cases e
        obtain ⟨a, vs, rfl, h1, h2⟩ := r
        refine .t xs ?_
        rw [h1, atomKs_ok h2 e1]
    | _ => cases e
theorem RVk.paired {n : Nat} : ∀ {kvs : List (DK × D)} {vs : List (DK × V)}, RVk G μ n H kvs vs → Paired (fun p q => p.1 = q.1 ∧ RV G μ n H p.2 q.2) kvs vs
  | [], _, h => by
    have h : _ = _ := h
    subst h; exact .nil
  | (k, d) :: ds, _, h => by
    obtain ⟨v, r, rfl, h2, h3⟩ := h
    exact .cons ⟨rfl, h2⟩ h3.paired
theorem RVk.of {n : Nat} : ∀ {kvs : List (DK × D)} {vs : List (DK × V)}, Paired (fun p q => p.1 = q.1 ∧ RV G μ n H p.2 q.2) kvs vs → RVk G μ n H kvs vs
  | [], _, .nil => rfl
  | (k, d) :: _, (k', v) :: _, .cons h t => by
    have e : k = k' := h.1
    subst e
    exact ⟨v, _, rfl, h.2, RVk.of t⟩
theorem RVk.length {n : Nat} {kvs : List (DK × D)} {vs : List (DK × V)} (h : RVk G μ n H kvs vs) : kvs.length = vs.length := Paired.length h.paired
def RO (G : Gx) (μ : Nat → Addr) (n : Nat) (H : Hp) : Option D → Option V → Prop
  | some d, some v => RV G μ n H d v
  | none, none => True
  | _, _ => False
theorem val_valV {n : Nat} {κ : Type} [DecidableEq κ] {f : κ → DK} (inj : ∀ a b, f a = f b → a = b) : ∀ {kvs : List (DK × D)} {l : List (κ × V)}, RVk G μ n H kvs (l.map fun p => (f p.1, p.2)) → ∀ k : κ, RO G μ n H (val kvs (f k)) (valV l k)
  | [], l, h, k => by
    have h : l.map _ = [] := h
    have : l = [] := List.map_eq_nil_iff.mp h
    subst this
    exact True.intro
  | (k0, d) :: r, l, h, k => by
    obtain ⟨v, r', e, h2, h3⟩ := h
    cases l with
    | nil => cases e
    | cons p l =>
      rw [List.map_cons] at e
      injection e with e1 e2
      injection e1 with e3 e4
      subst e2 e4
      have ih := val_valV inj h3 k
      by_cases hk : p.1 = k
      · rw [valV_pos hk]
        have : val ((k0, d) :: r) (f k) = some d := by
          unfold val
          rw [List.find?_cons_of_pos (by simp [← e3, hk])]; rfl
        rw [this]; exact h2
      · rw [valV_neg hk]
        have : val ((k0, d) :: r) (f k) = val r (f k) := by
          unfold val
          rw [List.find?_cons_of_neg (by
            simp only [decide_eq_true_eq, ← e3]
            exact fun z => hk (inj _ _ z))]
        rw [this]; exact ih
theorem dk_inj {a b : Key} (h : DK.k a = DK.k b) : a = b := by cases h; rfl
theorem dt_inj {a b : List Key} (h : DK.t a = DK.t b) : a = b := by cases h; rfl
/-- a look-up -/
theorem dget_ok (L : Lnk G μ S H) {d : D} {v y : V} {t : Bool} {kvs : List (DK × D)} {k : DK} (r : RV G μ S.n H d v) (e : dctD S d = some (t, kvs)) (hk : KeyAt H t k y) : ∃ a o, v = .ref a ∧ DGet H a y o ∧ RO G μ S.n H (val kvs k) o := by
  obtain ⟨a, vs, ho, h1, h2, h3, h4⟩ := dctD_ok L r e
  cases hk with
  | k x =>
    cases h3 with
    | k l => exact ⟨a, valV l x, h1, .inl ⟨l, x, h2, rfl, rfl⟩, val_valV (fun _ _ => dk_inj) h4 x⟩
  | t xs hb =>
    cases h3 with
    | t l => exact ⟨a, valV l xs, h1, .inr ⟨l, xs, _, h2, rfl, hb, rfl⟩, val_valV (fun _ _ => dt_inj) h4 xs⟩
end
section
variable {X : Cx} {G : Gx} {W : XK}
theorem pe_or {e : Expr} {t t' : TE} (h : PE X e t) (h' : PE X e t') : PE X e (fun σ H Q => t σ H Q ∨ t' σ H Q) := ⟨fun pins s σ H Q I q => q.elim (h.run pins s σ H Q I) (h'.run pins s σ H Q I)⟩
def alt2 (c : D → D → Sto → Bool) (o1 o2 : D → D → M D) : D → D → M D := fun x y S => if c x y S = true then o1 x y S else o2 x y S
theorem se_alt {e : Expr} {fa fb : En → M D} {o1 o2 : D → D → M D} (c : D → D → Sto → Bool) (h1 : SE X G W e (bin2 o1 fa fb)) (h2 : SE X G W e (bin2 o2 fa fb)) : SE X G W e (bin2 (alt2 c o1 o2) fa fb) := by
  refine pe_imp (pe_or h1 h2) fun σ H Q ⟨σd, S, μ, a, h⟩ => ?_
  have key : ∀ o : D → D → M D, bin2 o fa fb σd S = (match fa σd S with
      | .ok x S1 => (match fb σd S1 with
        | .ok y S2 => o x y S2
        | .exc c S' => .exc c S'
        | .stk => .stk)
      | .exc c S' => .exc c S'
      | .stk => .stk) := fun o => by
    show M.bind (fa σd) (fun x => M.bind (fb σd) fun y => o x y) S = _
    unfold M.bind
    cases fa σd S with
    | ok x S1 => dsimp only; cases fb σd S1 <;> rfl
    | exc _ _ => rfl
    | stk => rfl
  rw [key] at h
  cases e1 : fa σd S with
  | exc c S' =>
    rw [e1] at h
    exact .inl ⟨σd, S, μ, a, by rw [key, e1]; exact h⟩
  | stk => rw [e1] at h; exact h.elim
  | ok x S1 =>
    simp only [e1] at h
    cases e2 : fb σd S1 with
    | exc c S' =>
      rw [e2] at h
      exact .inl ⟨σd, S, μ, a, by rw [key, e1]; simp only [e2]; exact h⟩
    | stk => rw [e2] at h; exact h.elim
    | ok y S2 =>
      simp only [e2] at h
      unfold alt2 at h
      by_cases hc : c x y S2 = true
      · rw [if_pos hc] at h
        exact .inl ⟨σd, S, μ, a, by rw [key, e1]; simp only [e2]; exact h⟩
      · rw [if_neg hc] at h
        exact .inr ⟨σd, S, μ, a, by rw [key, e1]; simp only [e2]; exact h⟩
/-! ### subscripts -/
def dgetO : D → D → M D := fun x y S => match dctD S x with
  | some (t, kvs) => (match (keyD t y).bind (val kvs) with
    | some d => .ok d S
    | none => .stk)
  | none => .stk
def ixO : D → D → M D := fun x y S => match y with
  | .int i => (match x with
    | .str z => if z.length ≤ sizeLine then (match atI z.cps.toList i with
      | some c => .ok (.str ⟨#[c]⟩) S
      | none => .stk) else .stk
    | _ => (match ((tupD x).or (seqL S x)).bind fun ds => atI ds i with
      | some d => .ok d S
      | none => .stk))
  | _ => .stk
variable {a b : Expr} {fa fb : En → M D} {pos : Pos}
theorem se_dget (hu : X.A.units + 1 < cLine) (ha : SE X G W a fa) (hb : SE X G W b fb) (hs : NoSl b) : SE X G W (.Subscript a b pos) (bin2 dgetO fa fb) := by
  refine pe_imp (pe_dget hu ha hb hs) (rd_bin2 fun x y H Q ⟨d, e, S, μ, L, r1, r2, p⟩ => ?_)
  unfold dgetO at p
  cases e1 : dctD S d with
  | none => rw [e1] at p; exact p.elim
  | some q =>
    obtain ⟨t, kvs⟩ := q
    rw [e1] at p
    cases e2 : keyD t e with
    | none => simp only [e2] at p; exact p.elim
    | some k =>
      obtain ⟨aa, o, h1, h2, h3⟩ := dget_ok L r1 e1 (keyD_ok r2 e2)
      cases e3 : val kvs k with
      | none => simp only [e2, Option.bind_some, e3] at p; exact p.elim
      | some dv =>
        simp only [e2, Option.bind_some, e3] at p
        rw [e3] at h3
        cases o with
        | none => exact h3.elim
        | some v => exact ⟨aa, v, h1, h2, (Post.here L p) v h3⟩
theorem atI_rvs {μ : Nat → Addr} {n : Nat} {H : Hp} {ds : List D} {vs : List V} {i : Int} {d : D} (r : RVs G μ n H ds vs) (e : atI ds i = some d) : ∃ v, atI vs i = some v ∧ RV G μ n H d v := by
  unfold atI at *
  rw [← r.length]
  cases h : ixN ds.length i with
  | none => rw [h] at e; cases e
  | some j =>
    rw [h] at e
    have e : ds[j]? = some d := e
    have q : ∀ {ds : List D} {vs : List V} {j : Nat}, RVs G μ n H ds vs → ds[j]? = some d → ∃ v, vs[j]? = some v ∧ RV G μ n H d v := by
      intro ds
      induction ds with
      | nil => intro vs j r e; simp at e
      | cons x xs ih =>
        intro vs j r e
        obtain ⟨v, r', rfl, h1, h2⟩ := r
        cases j with
        | zero => simp at e; subst e; exact ⟨v, rfl, h1⟩
        | succ j =>
          obtain ⟨w, h3, h4⟩ := ih h2 (j := j) (by rwa [List.getElem?_cons_succ] at e)
          exact ⟨w, by rw [List.getElem?_cons_succ]; exact h3, h4⟩
    obtain ⟨v, h1, h2⟩ := q r e
    exact ⟨v, h1, h2⟩
theorem se_ix (hK : G.K = X.K) (ha : SE X G W a fa) (hb : SE X G W b fb) (hs : PlainIx b) : SE X G W (.Subscript a b pos) (bin2 ixO fa fb) := by
  refine pe_imp (pe_ix ix_seq ha hb hs) (rd_bin2 fun x y H Q ⟨d, e, S, μ, L, r1, r2, p⟩ => ?_)
  unfold ixO at p
  cases e with
  | int i =>
    cases (show y = .int i from r2)
    have seq : (∀ z, d ≠ .str z) → ∃ ds dv, (tupD d).or (seqL S d) = some ds ∧ atI ds i = some dv ∧ Post G μ S H W (fun d S' μ' H' => ∀ v, RV G μ' S'.n H' d v → Q v H') (.ok dv S) := fun hd => by
      have p' : Post G μ S H W (fun d S' μ' H' => ∀ v, RV G μ' S'.n H' d v → Q v H') (match ((tupD d).or (seqL S d)).bind fun ds => atI ds i with | some d => .ok d S | none => .stk) := by
        cases d <;> first | exact p | exact absurd rfl (hd _)
      cases h1 : (tupD d).or (seqL S d) with
      | none => rw [h1] at p'; exact p'.elim
      | some ds =>
        rw [h1] at p'
        cases h2 : atI ds i with
        | none => simp only [Option.bind_some, h2] at p'; exact p'.elim
        | some dv =>
          simp only [Option.bind_some, h2] at p'
          exact ⟨ds, dv, rfl, h2, p'⟩
    by_cases hd : ∃ z, d = .str z
    · obtain ⟨z, rfl⟩ := hd
      cases (show x = .str z from r1)
      simp only at p
      by_cases hz : z.length ≤ sizeLine
      · rw [if_pos hz] at p
        cases h2 : atI z.cps.toList i with
        | none => rw [h2] at p; exact p.elim
        | some c =>
          rw [h2] at p
          exact .inr (.inr ⟨z, i, c, rfl, rfl, hz, h2, (Post.here L p) _ rfl⟩)
      · rw [if_neg hz] at p; exact p.elim
    · obtain ⟨ds, dv, h1, h2, p⟩ := seq fun z e => hd ⟨z, e⟩
      cases h3 : tupD d with
      | some xs =>
        rw [h3] at h1
        cases h1
        obtain ⟨a, vs, rfl, q1, q2⟩ := tupD_ok r1 h3
        obtain ⟨v, q3, q4⟩ := atI_rvs q2 h2
        rw [hK] at q1
        exact .inr (.inl ⟨a, vs, i, v, rfl, rfl, q1, q3, (Post.here L p) v q4⟩)
      | none =>
        rw [h3] at h1
        have h1 : seqL S d = some ds := h1
        obtain ⟨a, vs, rfl, q1, q2⟩ := seqL_ok L r1 h1
        obtain ⟨v, q3, q4⟩ := atI_rvs q2 h2
        exact .inl ⟨a, vs, i, v, rfl, rfl, .inl q1, q3, (Post.here L p) v q4⟩
  | _ => exact p.elim
/-- a[b], of a dict, a list, a tuple, a text -/
def itemO : D → D → M D := alt2 (fun x _ S => (dctD S x).isSome) dgetO ixO
theorem se_item (hK : G.K = X.K) (hu : X.A.units + 1 < cLine) (ha : SE X G W a fa) (hb : SE X G W b fb) (hs : NoSl b := by intro _ _; rfl) (hp : PlainIx b := by intro _ _; rfl) : SE X G W (.Subscript a b pos) (bin2 itemO fa fb) :=
  se_alt _ (se_dget hu ha hb hs) (se_ix hK ha hb hp)
/-! ### in -/
def dinO (b : Bool) : D → D → M D := fun y x S => match dctD S x with
  | some (t, kvs) => (match keyD t y with
    | some k => .ok (.bl (b == (val kvs k).isSome)) S
    | none => .stk)
  | none => .stk
theorem RO.some_eq {μ : Nat → Addr} {n : Nat} {H : Hp} {o : Option D} {u : Option V} (r : RO G μ n H o u) : u.isSome = o.isSome := by
  cases o <;> cases u <;> first | rfl | exact r.elim
theorem se_din (hu : X.A.units + 1 < cLine) (ha : SE X G W a fa) (hb : SE X G W b fb) (hm : behindInMarks .In b = false := by rfl) : SE X G W (.Compare a [.In] [b] pos) (bin2 (dinO true) fa fb) := by
  refine pe_imp (pe_cmp (pc_din hu ha hb) hm) (rd_bin2 (r := fun y x H2 Q => ∃ a o, x = .ref a ∧ DGet H2 a y o ∧ Q (.bl o.isSome) H2) fun y x H Q ⟨e, d, S, μ, L, r2, r1, p⟩ => ?_)
  unfold dinO at p
  cases e1 : dctD S d with
  | none => rw [e1] at p; exact p.elim
  | some q =>
    obtain ⟨t, kvs⟩ := q
    rw [e1] at p
    cases e2 : keyD t e with
    | none => simp only [e2] at p; exact p.elim
    | some k =>
      obtain ⟨aa, o, h1, h2, h3⟩ := dget_ok L r1 e1 (keyD_ok r2 e2)
      simp only [e2] at p
      exact ⟨aa, o, h1, h2, (Post.here L p) _ (by show _ = _; rw [h3.some_eq]; cases (val kvs k).isSome <;> rfl)⟩
theorem se_dnotin (hu : X.A.units + 1 < cLine) (ha : SE X G W a fa) (hb : SE X G W b fb) (hm : behindInMarks .NotIn b = false := by rfl) : SE X G W (.Compare a [.NotIn] [b] pos) (bin2 (dinO false) fa fb) := by
  refine pe_imp (pe_cmp (pc_dnotin hu ha hb) hm) (rd_bin2 (r := fun y x H2 Q => ∃ a o, x = .ref a ∧ DGet H2 a y o ∧ Q (.bl (!o.isSome)) H2) fun y x H Q ⟨e, d, S, μ, L, r2, r1, p⟩ => ?_)
  unfold dinO at p
  cases e1 : dctD S d with
  | none => rw [e1] at p; exact p.elim
  | some q =>
    obtain ⟨t, kvs⟩ := q
    rw [e1] at p
    cases e2 : keyD t e with
    | none => simp only [e2] at p; exact p.elim
    | some k =>
      obtain ⟨aa, o, h1, h2, h3⟩ := dget_ok L r1 e1 (keyD_ok r2 e2)
      simp only [e2] at p
      exact ⟨aa, o, h1, h2, (Post.here L p) _ (by show _ = _; rw [h3.some_eq]; cases (val kvs k).isSome <;> rfl)⟩
/-- one sign in a text -/
def signIn (b : Bool) : D → D → M D := fun x y => match x, y with
  | .str y, .str z => (match y.cps.toList with
    | [c] => M.pure (.bl (b == decide (c ∈ z.cps.toList)))
    | _ => M.stk)
  | _, _ => M.stk
theorem str_one {y : Str} {c : Nat} (h : y.cps.toList = [c]) : y = ⟨#[c]⟩ := by
  obtain ⟨l⟩ := y
  have h : l.toList = [c] := h
  have : l = #[c] := by rw [← Array.toArray_toList (xs := l), h]
  rw [this]
theorem od_signIn : OpD X G W (compareOp .In) (signIn true) := opR_imp op_in_sign fun x y H Q ⟨d, e, S, μ, L, r1, r2, p⟩ => by
  unfold signIn at p
  cases d with
  | str y' =>
    cases e with
    | str z =>
      cases (show x = .str y' from r1)
      cases (show y = .str z from r2)
      simp only at p
      cases hc : y'.cps.toList with
      | nil => rw [hc] at p; exact p.elim
      | cons c r =>
        cases r with
        | cons _ _ => rw [hc] at p; exact p.elim
        | nil =>
          rw [hc] at p
          refine ⟨c, z, by rw [str_one hc], rfl, (Post.here L p) _ ?_⟩
          show V.bl _ = V.bl _
          cases decide (c ∈ z.cps.toList) <;> rfl
    | _ => exact p.elim
  | _ => exact p.elim
theorem od_signNotin : OpD X G W (compareOp .NotIn) (signIn false) := opR_imp op_notIn_sign fun x y H Q ⟨d, e, S, μ, L, r1, r2, p⟩ => by
  unfold signIn at p
  cases d with
  | str y' =>
    cases e with
    | str z =>
      cases (show x = .str y' from r1)
      cases (show y = .str z from r2)
      simp only at p
      cases hc : y'.cps.toList with
      | nil => rw [hc] at p; exact p.elim
      | cons c r =>
        cases r with
        | cons _ _ => rw [hc] at p; exact p.elim
        | nil =>
          rw [hc] at p
          refine ⟨c, z, by rw [str_one hc], rfl, (Post.here L p) _ ?_⟩
          show V.bl _ = V.bl _
          cases decide (c ∈ z.cps.toList) <;> rfl
    | _ => exact p.elim
  | _ => exact p.elim
def isStr : D → Bool
  | .str _ => true
  | _ => false
def inO : D → D → M D := alt2 (fun _ y S => (dctD S y).isSome) (dinO true) (alt2 (fun _ y _ => isStr y) (signIn true) inD)
def notinO : D → D → M D := alt2 (fun _ y S => (dctD S y).isSome) (dinO false) (alt2 (fun _ y _ => isStr y) (signIn false) notinD)
theorem se_in (hK : G.K = X.K) (hu : X.A.units + 64 < cLine) (ha : SE X G W a fa) (hb : SE X G W b fb) (hm : behindInMarks .In b = false := by rfl) : SE X G W (.Compare a [.In] [b] pos) (bin2 inO fa fb) :=
  se_alt _ (se_din (by omega) ha hb hm) (se_alt _ (se_cmp od_signIn ha hb hm) (se_cmp (od_inD hK hu) ha hb hm))
theorem se_notin (hK : G.K = X.K) (hu : X.A.units + 64 < cLine) (ha : SE X G W a fa) (hb : SE X G W b fb) (hm : behindInMarks .NotIn b = false := by rfl) : SE X G W (.Compare a [.NotIn] [b] pos) (bin2 notinO fa fb) :=
  se_alt _ (se_dnotin (by omega) ha hb hm) (se_alt _ (se_cmp od_signNotin ha hb hm) (se_cmp (od_notinD hK hu) ha hb hm))
/-- a comparison whose value is at hand, as a test -/
theorem st_of {e : Expr} {f : En → M D} (h : SE X G W e f) (he : ∀ whole, isTrue e X.env whole = (do let v ← whole; standAt e.pos; holding [v] (truthy v)) := by intro _; rfl) : STe X G W e (tst1 f) := st_val h he
end
end Fd

set_option Elab.async false
set_option linter.all false
set_option maxRecDepth 100000
set_option maxHeartbeats 1000000
namespace Fd
open PySem PySem.Spec PyProof.Rows L2
section
variable {X : Cx} {G : Gx} {W : XK} {e c : Expr} {fe : En → M D} {pos : Pos} {st : Stmt} {rest : List Stmt} {f g : En → M Fl} {tb : En → M Bool}
/-! ### statements -/
def seqS (f g : En → M Fl) : En → M Fl := fun σ => f σ >>= fun (fl : Fl) => match fl with
  | .nx σ' => g σ'
  | o => M.pure o
def skip : En → M Fl := fun σ => M.pure (Fl.nx σ)
theorem sss_nil : SSs X G W [] skip := pss_imp pss_nil fun Dn σ H ⟨σd, S, μ, a, h⟩ => (Post.here a.lnk h) σ a.en
theorem sss_cons (h1 : SS X G W st f) (h2 : SSs X G W rest g) : SSs X G W (st :: rest) (seqS f g) := by
  refine pss_imp (pss_cons h1 h2) fun Dn σ H ⟨σd, S, μ, a, h⟩ => ?_
  have h := Post.bind (k := fun (fl : Fl) => match fl with | .nx σ' => g σ' | o => M.pure o) h
  refine ⟨σd, S, μ, a, h.mono fun fl S1 μ1 H1 s q => ?_⟩
  cases fl with
  | nx σ' => exact fun σ1 r => ⟨σ', S1, μ1, ⟨r, s.lnk⟩, q⟩
  | bk σ' => exact fun σ1 r => (Post.here (W := W) s.lnk q) σ1 r
  | ct σ' => exact fun σ1 r => (Post.here (W := W) s.lnk q) σ1 r
  | rt d => exact fun v r => (Post.here (W := W) s.lnk q) v r
theorem sss_one (h1 : SS X G W st f) : SSs X G W [st] f := pss_one h1
theorem ss_pass : SS X G W (.Pass pos) skip := ps_imp ps_pass fun Dn σ H ⟨σd, S, μ, a, h⟩ => (Post.here a.lnk h) σ a.en
theorem ss_break : SS X G W (.Break pos) (fun σ => M.pure (.bk σ)) := ps_imp ps_break fun Dn σ H ⟨σd, S, μ, a, h⟩ => (Post.here a.lnk h) σ a.en
theorem ss_cont : SS X G W (.Continue pos) (fun σ => M.pure (.ct σ)) := ps_imp ps_continue fun Dn σ H ⟨σd, S, μ, a, h⟩ => (Post.here a.lnk h) σ a.en
theorem ss_doc {x j pos pos'} : SS X G W (.Expr (.Constant (.str x) j pos) pos') skip := ps_imp ps_doc fun Dn σ H ⟨σd, S, μ, a, h⟩ => (Post.here a.lnk h) σ a.en
def exprS (fe : En → M D) : En → M Fl := fun σ => fe σ >>= fun _ => M.pure (Fl.nx σ)
theorem ss_expr (he : SE X G W e fe) (hs : swapsWith e none pos.line X.env = pure false := by rfl) : SS X G W (.Expr e pos) (exprS fe) := ps_imp (ps_expr he hs) fun Dn σ H ⟨σd, S, μ, a, h⟩ =>
  rdE_bind (k := fun σ _ => M.pure (Fl.nx σ)) a h fun d S1 μ1 H1 v s a1 r q => (Post.here a1.lnk q) σ a1.en
def retS (fe : En → M D) : En → M Fl := fun σ => fe σ >>= fun d => M.pure (Fl.rt d)
theorem ss_ret (he : SE X G W e fe) : SS X G W (.Return (some e) pos) (retS fe) := ps_imp (ps_ret he) fun Dn σ H ⟨σd, S, μ, a, h⟩ =>
  rdE_bind (k := fun _ d => M.pure (Fl.rt d)) a h fun d S1 μ1 H1 v s a1 r q => (Post.here a1.lnk q) v r
theorem ss_retN : SS X G W (.Return none pos) (fun _ => M.pure (Fl.rt .non)) := ps_imp ps_retN fun Dn σ H ⟨σd, S, μ, a, h⟩ => (Post.here a.lnk h) _ rfl
def ifS (t : En → M Bool) (f g : En → M Fl) : En → M Fl := fun σ => t σ >>= fun b => if b = true then f σ else g σ
theorem ss_if {as bs : List Stmt} (hc : STe X G W c tb) (ha : SSs X G W as f) (hb : SSs X G W bs g) : SS X G W (.If c as bs pos) (ifS tb f g) := ps_imp (ps_if hc ha hb) fun Dn σ H ⟨σd, S, μ, a, h⟩ =>
  rdT_bind (k := fun σ b => if b = true then f σ else g σ) a h fun d S1 μ1 H1 s a1 q => by
    cases d with
    | true => exact ⟨σd, S1, μ1, a1, q⟩
    | false => exact ⟨σd, S1, μ1, a1, q⟩
def setS (i : Nat) (fe : En → M D) : En → M Fl := fun σ => fe σ >>= fun d => M.pure (Fl.nx (σ.set i (some d)))
theorem ss_set (i : Nat) {x : Str} {pos' : Pos} (he : SE X G W e fe) (hN : X.N.Nodup) (hi : X.N[i]? = some x := by rfl) (hx : Loc X.env.scope x := by first | exact Or.inl rfl | exact Or.inr rfl) (hs : swapsWith e (some (.Name x pos')) pos.line X.env = pure false := by rfl) (hf : X.fn x = true ∨ X.env.scope.names.lookup x = some .local := by first | exact .inl rfl | exact .inr rfl | assumption) :
    SS X G W (.Assign [.Name x pos'] e pos) (setS i fe) := ps_imp (ps_set hN hi hx he hs hf) fun Dn σ H ⟨σd, S, μ, a, h⟩ =>
  rdE_bind (k := fun σ d => M.pure (Fl.nx (σ.set i (some d)))) a h fun d S1 μ1 H1 v s a1 r q => (Post.here a1.lnk q) _ (a1.en.set r)
/-! ### targets -/
def rdG (G : Gx) (W : XK) (g : D → En → M En) : TG := fun v σ H Q => ∃ d σd S μ, At G σd S μ σ H ∧ RV G μ S.n H d v ∧ Post G μ S H W (fun σd' S' μ' H' => ∀ σ', REn G μ' S'.n H' σd' σ' → Q σ' H') (g d σd S)
def rdGs (G : Gx) (W : XK) (g : List D → En → M En) : TGs := fun vs σ H Q => ∃ ds σd S μ, At G σd S μ σ H ∧ RVs G μ S.n H ds vs ∧ Post G μ S H W (fun σd' S' μ' H' => ∀ σ', REn G μ' S'.n H' σd' σ' → Q σ' H') (g ds σd S)
abbrev SG (X : Cx) (G : Gx) (W : XK) (tg : Expr) (g : D → En → M En) : Prop := PG X tg (rdG G W g)
abbrev SGs (X : Cx) (G : Gx) (W : XK) (tgs : List Expr) (g : List D → En → M En) : Prop := PGs X tgs (rdGs G W g)
theorem pg_imp {tg : Expr} {t t' : TG} (h : PG X tg t) (m : ∀ v σ H Q, t' v σ H Q → t v σ H Q) : PG X tg t' := ⟨fun pins s σ H v u Q I r q => h.run pins s σ H v u Q I r (m v σ H Q q)⟩
theorem pgs_imp {tg : List Expr} {t t' : TGs} (h : PGs X tg t) (m : ∀ v σ H Q, t' v σ H Q → t v σ H Q) : PGs X tg t' := ⟨fun pins s σ H v u Q I r q => h.run pins s σ H v u Q I r (m v σ H Q q)⟩
def nameG (i : Nat) : D → En → M En := fun d σ => M.pure (σ.set i (some d))
theorem sg_name (i : Nat) {x : Str} {pos : Pos} (hN : X.N.Nodup) (hi : X.N[i]? = some x := by rfl) (hx : Loc X.env.scope x := by first | exact Or.inl rfl | exact Or.inr rfl) (hf : X.fn x = true ∨ X.env.scope.names.lookup x = some .local := by first | exact .inl rfl | exact .inr rfl | assumption) : SG X G W (.Name x pos) (nameG i) :=
  pg_imp (pg_name hN hi hx hf) fun v σ H Q ⟨d, σd, S, μ, a, r, h⟩ => (Post.here a.lnk h) _ (a.en.set r)
def nilG : List D → En → M En := fun ds σ => match ds with
  | [] => M.pure σ
  | _ => M.stk
def consG (g : D → En → M En) (gs : List D → En → M En) : List D → En → M En := fun ds σ => match ds with
  | d :: r => g d σ >>= fun σ' => gs r σ'
  | [] => M.stk
theorem sgs_nil : SGs X G W [] nilG := pgs_imp pgs_nil fun vs σ H Q ⟨ds, σd, S, μ, a, r, h⟩ => by
  cases ds with
  | nil => exact ⟨r, (Post.here a.lnk h) _ a.en⟩
  | cons _ _ => exact h.elim
theorem sgs_cons {tg : Expr} {tgs : List Expr} {g : D → En → M En} {gs : List D → En → M En} (h1 : SG X G W tg g) (h2 : SGs X G W tgs gs) (hs : (assignEach (tg :: tgs) X.env).map (·.2) = assign tg X.env :: (assignEach tgs X.env).map (·.2) := by rfl) : SGs X G W (tg :: tgs) (consG g gs) := by
  refine pgs_imp (pgs_cons h1 h2 hs) fun vs σ H Q ⟨ds, σd, S, μ, a, r, h⟩ => ?_
  cases ds with
  | nil => exact h.elim
  | cons d ds =>
    obtain ⟨v, vr, rfl, r1, r2⟩ := r
    refine ⟨v, vr, rfl, d, σd, S, μ, a, r1, (Post.bind (k := fun σ' => gs ds σ') h).mono fun σd' S1 μ1 H1 s q σ' en => ?_⟩
    exact ⟨ds, σd', S1, μ1, ⟨en, s.lnk⟩, s.rvs a.lnk r2, q⟩
def tupG (n : Nat) (gs : List D → En → M En) : D → En → M En := fun d σ => match tupD d with
  | some ds => if ds.length = n then gs ds σ else M.stk
  | none => M.stk
theorem sg_tup {tgs : List Expr} {k : Nat} {gs : List D → En → M En} (n : Nat) (hK : G.K = X.K) (hc : X.calm = true) (h : SGs X G W tgs gs) (hn : (assignEach tgs X.env).length = n := by rfl) (hst : (assignEach tgs X.env).findIdx? (·.1) = none := by rfl) : SG X G W (.Tuple tgs k pos) (tupG n gs) :=
  pg_imp (pg_tup hc h hn hst) fun v σ H Q ⟨d, σd, S, μ, a, r, p⟩ => by
    unfold tupG at p
    cases e : tupD d with
    | none => rw [e] at p; exact p.elim
    | some ds =>
      rw [e] at p
      obtain ⟨ad, vs, rfl, h1, h2⟩ := tupD_ok r e
      by_cases hl : ds.length = n
      · simp only [hl, if_true] at p
        exact ⟨ad, vs, rfl, by rw [← hK]; exact h1, by rw [← h2.length]; exact hl, ds, σd, S, μ, a, h2, p⟩
      · simp only [hl, if_false] at p
        exact p.elim
def asgS (fe : En → M D) (g : D → En → M En) : En → M Fl := fun σ => fe σ >>= fun d => g d σ >>= fun σ' => M.pure (Fl.nx σ')
theorem ss_asg {tg : Expr} {g : D → En → M En} (he : SE X G W e fe) (hg : SG X G W tg g) (hs : swapsWithSole [tg] e pos.line X.env = pure false := by rfl) (hw : swappedStores [tg] e X.env = pure none := by rfl)
    (h1 : (assignEach [tg] X.env).map (·.2) = [assign tg X.env] := by rfl) : SS X G W (.Assign [tg] e pos) (asgS fe g) := ps_imp (ps_asg he hg hs hw h1) fun Dn σ H ⟨σd, S, μ, a, h⟩ =>
  rdE_bind (k := fun σ d => g d σ >>= fun σ' => M.pure (Fl.nx σ')) a h fun d S1 μ1 H1 v s a1 r q =>
    ⟨d, σd, S1, μ1, a1, r, (Post.bind (k := fun σ' => M.pure (Fl.nx σ')) q).mono fun σd' S2 μ2 H2 s2 q2 => by
      intro σ' en
      exact (Post.here (W := W) s2.lnk q2) σ' en⟩

/-! ### what is walked -/
def ItOk (G : Gx) (J : It) (μ : Nat → Addr) (S : Sto) (H : Hp) (ds : List D) : Prop := ∀ μ' S' H', Stp G μ S H μ' S' H' →
  (∀ i, i < ds.length → J.go i H') ∧ J.stop ds.length H' ∧ ∀ i d, ds[i]? = some d → ∀ x H'', J.yld i H' x H'' → Stp G μ' S' H' μ' S' H'' ∧ RV G μ' S'.n H'' d x
def rdI (G : Gx) (W : XK) (f : En → M (List D)) : TI := fun σ H R => ∃ σd S μ, At G σd S μ σ H ∧ Post G μ S H W (fun ds S' μ' H' => ∀ J, ItOk G J μ' S' H' ds → R J H') (f σd S)
abbrev SI (X : Cx) (G : Gx) (W : XK) (tg e : Expr) (f : En → M (List D)) : Prop := PI X tg e (rdI G W f)
theorem pi_imp {tg e : Expr} {t t' : TI} (h : PI X tg e t) (m : ∀ σ H R, t' σ H R → t σ H R) : PI X tg e t' := ⟨fun pins s σ H R I q => h.run pins s σ H R I (m σ H R q)⟩
theorem pi_or {tg e : Expr} {t t' : TI} (h : PI X tg e t) (h' : PI X tg e t') : PI X tg e (fun σ H R => t σ H R ∨ t' σ H R) := ⟨fun pins s σ H R I q => q.elim (h.run pins s σ H R I) (h'.run pins s σ H R I)⟩
/-- the loop -/
def loopM (g : D → En → M En) (b : En → M Fl) : List D → En → M Fl
  | [], σ => M.pure (Fl.nx σ)
  | d :: ds, σ => g d σ >>= fun σ1 => b σ1 >>= fun (fl : Fl) => match fl with
    | .nx σ2 => loopM g b ds σ2
    | .ct σ2 => loopM g b ds σ2
    | .bk σ2 => M.pure (Fl.nx σ2)
    | .rt d => M.pure (Fl.rt d)
def forS (it : En → M (List D)) (g : D → En → M En) (b : En → M Fl) : En → M Fl := fun σ => it σ >>= fun ds => loopM g b ds σ
theorem ss_for {tg iter : Expr} {body : List Stmt} {it : En → M (List D)} {g : D → En → M En} {b : En → M Fl} (hp : PassesOwn (model X.prog X.w) X.A X.env X.xe) (hc : X.calm = true) (hi : SI X G W tg iter it) (hg : SG X G W tg g) (hb : SSs X G W body b)
    (hs : ∀ x, foldedSetIterable iter X.env x = pure x := by intro _; rfl) : SS X G W (.For tg iter body [] pos) (forS it g b) := by
  refine ps_imp (ps_for hp hc hi hg hb hs) fun Dn σ H ⟨σd, S, μ, a, h⟩ => ?_
  refine ⟨σd, S, μ, a, (Post.bind (k := fun ds => loopM g b ds σd) h).mono fun ds S1 μ1 H1 s q J ok => ?_⟩
  refine ⟨fun i m σ H => m = ds.length - i ∧ i ≤ ds.length ∧ ∃ σd' S' μ', At G σd' S' μ' σ H ∧ Stp G μ1 S1 H1 μ' S' H ∧ Post G μ' S' H W (flP G Dn) (loopM g b (ds.drop i) σd' S'), ⟨ds.length, by simp, Nat.zero_le _, σd, S1, μ1, a.step s, .refl s.lnk, q⟩, ?_⟩
  rintro i m σ' H' ⟨rfl, hi, σd', S', μ', a', s', p⟩
  obtain ⟨o1, o2, o3⟩ := ok μ' S' H' s'
  by_cases hlt : i < ds.length
  · refine .inr ⟨o1 i hlt, fun σ H => ∃ m', m' < ds.length - i ∧ m' = ds.length - (i + 1) ∧ i + 1 ≤ ds.length ∧ ∃ σd' S' μ', At G σd' S' μ' σ H ∧ Stp G μ1 S1 H1 μ' S' H ∧ Post G μ' S' H W (flP G Dn) (loopM g b (ds.drop (i + 1)) σd' S'), fun σ H ⟨m', l, e, r⟩ => ⟨m', l, e, r⟩, fun x H'' y => ?_⟩
    have hd : ds[i]? = some ds[i] := List.getElem?_eq_getElem hlt
    obtain ⟨s2, r2⟩ := o3 i _ hd x H'' y
    rw [List.drop_eq_getElem_cons hlt] at p
    have p1 := Post.bind (k := fun σ1 => b σ1 >>= fun (fl : Fl) => match fl with
      | .nx σ2 => loopM g b (ds.drop (i + 1)) σ2
      | .ct σ2 => loopM g b (ds.drop (i + 1)) σ2
      | .bk σ2 => M.pure (Fl.nx σ2)
      | .rt d => M.pure (Fl.rt d)) p
    refine ⟨ds[i], σd', S', μ', a'.step s2, r2, (p1.later s2).mono fun σd3 S3 μ3 H3 s3 q3 σ3 en3 => ?_⟩
    have st3 : Stp G μ1 S1 H1 μ3 S3 H3 := (s'.trans s2).trans s3
    refine ⟨σd3, S3, μ3, ⟨en3, s3.lnk⟩, (Post.bind (k := fun (fl : Fl) => match fl with
      | .nx σ2 => loopM g b (ds.drop (i + 1)) σ2
      | .ct σ2 => loopM g b (ds.drop (i + 1)) σ2
      | .bk σ2 => M.pure (Fl.nx σ2)
      | .rt d => M.pure (Fl.rt d)) q3).mono fun fl S4 μ4 H4 s4 q4 => ?_⟩
    cases fl with
    | nx σd5 => exact fun σ5 en5 => ⟨ds.length - (i + 1), by omega, rfl, hlt, σd5, S4, μ4, ⟨en5, s4.lnk⟩, st3.trans s4, q4⟩
    | ct σd5 => exact fun σ5 en5 => ⟨ds.length - (i + 1), by omega, rfl, hlt, σd5, S4, μ4, ⟨en5, s4.lnk⟩, st3.trans s4, q4⟩
    | bk σd5 => exact fun σ5 en5 => (Post.here s4.lnk q4) σ5 en5
    | rt d => exact fun v r => (Post.here s4.lnk q4) v r
  · have e : i = ds.length := by omega
    subst e
    rw [List.drop_length] at p
    exact .inl ⟨o2, (Post.here a'.lnk p) σ' a'.en⟩
/-! ### while -/
def whileM (c : En → M Bool) (b : En → M Fl) : Nat → En → M Fl
  | 0, _ => M.stk
  | n + 1, σ => c σ >>= fun k => if k = true then (b σ >>= fun (fl : Fl) => match fl with
    | .nx σ2 => whileM c b n σ2
    | .ct σ2 => whileM c b n σ2
    | .bk σ2 => M.pure (Fl.nx σ2)
    | .rt d => M.pure (Fl.rt d)) else M.pure (Fl.nx σ)
theorem ss_while (n : Nat) {body : List Stmt} {b : En → M Fl} (hp : PassesOwn (model X.prog X.w) X.A X.env X.xe) (hc : STe X G W c tb) (hb : SSs X G W body b) : SS X G W (.While c body [] pos) (whileM tb b n) := by
  refine ps_imp (ps_while hp hc hb) fun Dn σ H ⟨σd, S, μ, a, h⟩ => ?_
  refine ⟨fun m σ H => ∃ σd S μ, At G σd S μ σ H ∧ Post G μ S H W (flP G Dn) (whileM tb b m σd S), ⟨n, σd, S, μ, a, h⟩, ?_⟩
  rintro m σ' H' ⟨σd', S', μ', a', p⟩
  cases m with
  | zero => exact p.elim
  | succ m =>
    refine rdT_bind (k := fun σ k => if k = true then (b σ >>= fun (fl : Fl) => match fl with
      | .nx σ2 => whileM tb b m σ2
      | .ct σ2 => whileM tb b m σ2
      | .bk σ2 => M.pure (Fl.nx σ2)
      | .rt d => M.pure (Fl.rt d)) else M.pure (Fl.nx σ)) a' p fun k S1 μ1 H1 s a1 q => ?_
    cases k with
    | false => exact (Post.here a1.lnk q) σ' a1.en
    | true =>
      refine ⟨fun σ H => ∃ σd S μ, At G σd S μ σ H ∧ Post G μ S H W (flP G Dn) (whileM tb b m σd S), fun σ2 H2 z => ⟨m, Nat.lt_succ_self _, z⟩, σd', S1, μ1, a1, (Post.bind (k := fun (fl : Fl) => match fl with
        | .nx σ2 => whileM tb b m σ2
        | .ct σ2 => whileM tb b m σ2
        | .bk σ2 => M.pure (Fl.nx σ2)
        | .rt d => M.pure (Fl.rt d)) q).mono fun fl S4 μ4 H4 s4 q4 => ?_⟩
      cases fl with
      | nx σd5 => exact fun σ5 en5 => ⟨σd5, S4, μ4, ⟨en5, s4.lnk⟩, q4⟩
      | ct σd5 => exact fun σ5 en5 => ⟨σd5, S4, μ4, ⟨en5, s4.lnk⟩, q4⟩
      | bk σd5 => exact fun σ5 en5 => (Post.here s4.lnk q4) σ5 en5
      | rt d => exact fun v r => (Post.here s4.lnk q4) v r
end
end Fd

set_option Elab.async false
set_option linter.all false
set_option maxRecDepth 100000
set_option maxHeartbeats 1000000
namespace Fd
open PySem PySem.Spec PyProof.Rows L2
/-! ### locked while it is walked -/
def isCont : SO → Bool
  | .lst _ => true
  | .dct _ _ => true
  | .ins _ _ => false
/-- the object that is locked through f: any; g says which -/
def lockM {α : Type} (g : En → Sto → Option Nat) (f : En → M α) : En → M α := fun σ S => match g σ S with
  | some l => if S.locked l = true then .stk else match S.objs[l]? with
    | some o => if isCont o = true then (match f σ { S with lck := l :: S.lck } with
      | .ok a S' => if S'.lck = l :: S.lck then .ok a { S' with lck := S.lck } else .stk
      | _ => .stk) else .stk
    | none => .stk
  | none => .stk
section
variable {G : Gx} {μ : Nat → Addr} {S : Sto} {H : Hp}
theorem LO.locked {n : Nat} {b : Bool} {a : Addr} {o : SO} (hc : isCont o = true) (h : LO G μ n H b a o) : ∃ u, Held b H a u ∧ Mut (some u) ∧ (∀ od z, u ≠ .frz od z) ∧ (∀ ps, u ≠ .tbl ps) ∧ (∀ φ, u ≠ .ext φ) ∧ ∀ (H' : Hp) (b' : Bool) (μ' : Nat → Addr) (n' : Nat), (∀ d v, RV G μ n H d v → RV G μ' n' H' d v) → Held b' H' a u → LO G μ' n' H' b' a o := by
  cases o with
  | lst ds =>
    obtain ⟨vs, h1, h2⟩ := h
    exact ⟨_, h1, True.intro, fun _ _ e => (by cases e), fun _ e => (by cases e), fun _ e => (by cases e), fun H' b' μ' n' m h => ⟨vs, h, .of (Paired.mapP h2.paired m)⟩⟩
  | dct t kvs =>
    obtain ⟨vs, o, h1, h2, h3⟩ := h
    refine ⟨o, h1, ?_, fun _ _ e => (by cases h2 <;> cases e), fun _ e => (by cases h2 <;> cases e), fun _ e => (by cases h2 <;> cases e), fun H' b' μ' n' m h => ⟨vs, o, h, h2, .of (Paired.mapP h3.paired fun p q z => ⟨z.1, m _ _ z.2⟩)⟩⟩
    cases h2 <;> exact True.intro
  | ins c fs => cases hc
/-- into the lock -/
theorem Stp.lock (L : Lnk G μ S H) {l : Nat} {o : SO} (eo : S.objs[l]? = some o) (hc : isCont o = true) (hl : S.locked l = false) : ∃ u, H (μ l) = some u ∧ Mut (some u) ∧ (∀ od z, u ≠ .frz od z) ∧ ∀ od, Stp G μ S H μ { S with lck := l :: S.lck } (upd H (μ l) (.frz od u)) := by
  have h := L.ob l o eo
  obtain ⟨u, hu, mu, nf, nt, nx, back⟩ := h.locked hc
  rw [hl] at hu
  have hu : H (μ l) = some u := hu
  have hlt : l < S.n := (List.getElem?_eq_some_iff.mp eo).1
  refine ⟨u, hu, mu, nf, fun od => ?_⟩
  have g := grow_put (u := .frz od u) L hlt hu nf (fun _ e => by cases e)
  refine ⟨⟨L.inj, fun i ob e => ?_, G.tst _ _ (fun b z e hz => ?_) L.tab, fun i hi => ?_⟩, g⟩
  · by_cases hi : i = l
    · subst hi
      have e : S.objs[i]? = some ob := e
      rw [eo] at e; cases e
      refine back _ _ _ _ (fun d v r => r.mono g L.tf) ?_
      have hb : Sto.locked { S with lck := i :: S.lck } i = true := by simp [Sto.locked]
      rw [hb]
      exact ⟨od, upd_same⟩
    · have e : S.objs[i]? = some ob := e
      have hb : Sto.locked { S with lck := l :: S.lck } i = S.locked i := by simp [Sto.locked, hi]
      rw [hb]
      have hil : i < S.n := (List.getElem?_eq_some_iff.mp e).1
      exact (L.ob i ob e).mono g L.tf (upd_ne fun q => hi (L.inj i hil l hlt q))
  · rw [upd_ne (fun q => ?_)]
    · exact e
    · rw [q, hu] at e
      cases e
      rcases hz with ⟨ps, rfl⟩ | ⟨φ, rfl⟩
      · exact nt _ rfl
      · exact nx _ rfl
  · rcases List.mem_cons.mp hi with z | z
    · rw [z]; exact hlt
    · exact L.lk i z
mutual
theorem RV.chg {n : Nat} {H' : Hp} (k : ∀ a o, H a = some o → NotOwn μ n a → (∀ ps, o ≠ .tbl ps) → H' a = some o) (t : ∀ a xs, H a = some (.tup xs) → H' a = some (.tup xs)) : ∀ (d : D) (v : V), RV G μ n H d v → RV G μ n H' d v
  | .non, _, h => h
  | .bl _, _, h => h
  | .int _, _, h => h
  | .str _, _, h => h
  | .tup ds, _, h => by
    obtain ⟨a, vs, h1, h2, h3⟩ := h
    exact ⟨a, vs, h1, t _ _ h2, RVs.chg k t ds vs h3⟩
  | .kt ds, _, h => by
    obtain ⟨a, vs, h1, h2, h3⟩ := h
    exact ⟨a, vs, h1, h2, RVs.chg k t ds vs h3⟩
  | .kl ds, _, h => by
    obtain ⟨a, vs, h1, h2, h3⟩ := h
    exact ⟨a, vs, h1, h2, RVs.chg k t ds vs h3⟩
  | .lst ds, _, h => by
    obtain ⟨a, vs, h1, h2, h3, h4⟩ := h
    exact ⟨a, vs, h1, h2, k _ _ h3 h2 (fun _ e => by cases e), RVs.chg k t ds vs h4⟩
  | .dct _ ds, _, h => by
    obtain ⟨a, vs, od, o, h1, h2, h3, h4, h5⟩ := h
    exact ⟨a, vs, od, o, h1, h2, k _ _ h3 h2 (fun _ e => by cases e), h4, RVk.chg k t ds vs h5⟩
  | .ref l, _, h => h
  | .lam i, _, h => by
    obtain ⟨a, o, c, oc, h1, h2, h3, h4, h5, h6, h7, h8⟩ := h
    exact ⟨a, o, c, oc, h1, h2, k _ _ h3 h2 h5, h4, h5, h6, k _ _ h7 h6 h8, h8⟩
theorem RVs.chg {n : Nat} {H' : Hp} (k : ∀ a o, H a = some o → NotOwn μ n a → (∀ ps, o ≠ .tbl ps) → H' a = some o) (t : ∀ a xs, H a = some (.tup xs) → H' a = some (.tup xs)) : ∀ (ds : List D) (vs : List V), RVs G μ n H ds vs → RVs G μ n H' ds vs
  | [], _, h => h
  | d :: ds, vs, h => by
    obtain ⟨v, r, h1, h2, h3⟩ := h
    exact ⟨v, r, h1, RV.chg k t d v h2, RVs.chg k t ds r h3⟩
theorem RVk.chg {n : Nat} {H' : Hp} (k : ∀ a o, H a = some o → NotOwn μ n a → (∀ ps, o ≠ .tbl ps) → H' a = some o) (t : ∀ a xs, H a = some (.tup xs) → H' a = some (.tup xs)) : ∀ (ds : List (DK × D)) (vs : List (DK × V)), RVk G μ n H ds vs → RVk G μ n H' ds vs
  | [], _, h => h
  | (kk, d) :: ds, vs, h => by
    obtain ⟨v, r, h1, h2, h3⟩ := h
    exact ⟨v, r, h1, RV.chg k t d v h2, RVk.chg k t ds r h3⟩
end
theorem LO.chg {n : Nat} {H' : Hp} {b b' : Bool} {a : Addr} (m : ∀ d v, RV G μ n H d v → RV G μ n H' d v) (e : H' a = H a) (hb : b' = b) : ∀ {o : SO}, LO G μ n H b a o → LO G μ n H' b' a o
  | .lst ds, ⟨vs, h1, h2⟩ => ⟨vs, by unfold Held at *; rw [e, hb]; exact h1, .of (Paired.mapP h2.paired m)⟩
  | .dct t kvs, ⟨vs, o, h1, h2, h3⟩ => ⟨vs, o, by unfold Held at *; rw [e, hb]; exact h1, h2, .of (Paired.mapP h3.paired fun p q z => ⟨z.1, m _ _ z.2⟩)⟩
  | .ins c fs, ⟨dx, fs', h1, h2⟩ => ⟨dx, fs', by rw [e]; exact h1, Paired.mapP h2 fun p q z => ⟨z.1, m _ _ z.2⟩⟩
/-- out of the lock -/
theorem Stp.unlock (L : Lnk G μ S H) {l : Nat} {o : SO} {u : HO} {od : Obj} (eo : S.objs[l]? = some o) (hc : isCont o = true) (hl : S.locked l = false) (hu : H (μ l) = some u) (nf : ∀ od z, u ≠ .frz od z) {μ' : Nat → Addr} {S' : Sto} {H' : Hp}
    (s : Stp G μ { S with lck := l :: S.lck } (upd H (μ l) (.frz od u)) μ' S' H') (e : S'.lck = l :: S.lck) : H' (μ l) = some (.frz od u) ∧ Stp G μ S H μ' { S' with lck := S.lck } (upd H' (μ l) u) ∧ (∀ d v, RV G μ' S'.n H' d v → RV G μ' S'.n (upd H' (μ l) u) d v) := by
  have hlt : l < S.n := (List.getElem?_eq_some_iff.mp eo).1
  have fz : H' (μ l) = some (.frz od u) := s.grow.ext.frz _ _ _ upd_same
  have hlt' : l < S'.n := Nat.lt_of_lt_of_le hlt s.grow.agr.1
  have ml : μ' l = μ l := s.grow.agr.2 l hlt
  have nl : S.lck.contains l = false := hl
  obtain ⟨u1, hu1, _, nf1, nt, nx, _⟩ := (L.ob l o eo).locked hc
  rw [hl] at hu1
  have hu1 : H (μ l) = some u1 := hu1
  rw [hu] at hu1; cases hu1
  have m : ∀ d v, RV G μ' S'.n H' d v → RV G μ' S'.n (upd H' (μ l) u) d v := fun d v r => r.chg (fun a o ea na _ => by rw [upd_ne (fun q => na l hlt' (by rw [ml, q]))]; exact ea) (fun a xs ea => by rw [upd_ne (fun q => by rw [q, fz] at ea; cases ea)]; exact ea) d v
  refine ⟨fz, ⟨⟨fun i hi j hj q => s.lnk.inj i hi j hj q, fun i ob ei => ?_, ?_, fun i hi => ?_⟩, ⟨⟨s.grow.agr.1, s.grow.agr.2⟩, fun i h1 h2 o e => ?_, fun a z ea na nt => ?_, fun a od' z ea => ?_, fun a z ea ntz => ?_⟩⟩, m⟩
  · have ei : S'.objs[i]? = some ob := ei
    have h := s.lnk.ob i ob ei
    by_cases hi : i = l
    · subst hi
      have bl : S'.locked i = true := by
        show S'.lck.contains i = true
        rw [e]; simp
      rw [bl] at h
      have hc' : isCont ob = true := by
        cases ob with
        | ins c fs =>
          obtain ⟨dx, fs', h1, _⟩ := h
          rw [ml, fz] at h1; cases h1
        | _ => rfl
      obtain ⟨u2, hu2, _, _, _, _, back⟩ := h.locked hc'
      obtain ⟨od2, hu2⟩ := (show ∃ od, H' (μ' i) = some (.frz od u2) from hu2)
      rw [ml, fz] at hu2
      cases hu2
      refine back _ _ _ _ m ?_
      show Held (S.lck.contains i) _ _ _
      rw [nl, ml]
      exact upd_same
    · have hil : i < S'.n := (List.getElem?_eq_some_iff.mp ei).1
      refine h.chg m (upd_ne fun q => hi (s.lnk.inj i hil l hlt' (by rw [q, ml]))) ?_
      show S.lck.contains i = S'.lck.contains i
      rw [e]
      simp [hi]
  · refine G.tst _ _ (fun b z ez hz => ?_) s.lnk.tab
    rw [upd_ne (fun q => ?_)]
    · exact ez
    · rw [q, fz] at ez
      cases ez
      rcases hz with ⟨ps, z⟩ | ⟨φ, z⟩ <;> cases z
  · exact Nat.lt_of_lt_of_le (L.lk i hi) s.grow.agr.1
  · by_cases q : μ' i = μ l
    · obtain ⟨ps, z⟩ := s.grow.frsh i h1 h2 _ (by rw [q, upd_same])
      cases z
    · exact s.grow.frsh i h1 h2 o (by rw [upd_ne q]; exact e)
  · have ne : a ≠ μ l := fun q => na l hlt q.symm
    rw [upd_ne ne]
    exact s.grow.ext.keep a z (by rw [upd_ne ne]; exact ea) na nt
  · have ne : a ≠ μ l := fun q => by rw [q, hu] at ea; cases ea; exact nf _ _ rfl
    rw [upd_ne ne]
    exact s.grow.ext.frz a od' z (by rw [upd_ne ne]; exact ea)
  · by_cases q : a = μ l
    · exact ⟨u, by rw [q, upd_same], nt⟩
    · obtain ⟨z', e', n'⟩ := s.grow.ext.there a z (by rw [upd_ne q]; exact ea) ntz
      exact ⟨z', by rw [upd_ne q]; exact e', n'⟩
end
section
variable {X : Cx} {G : Gx} {W : XK} {st : Stmt} {f : En → M Fl} {e : Expr} {fe : En → M D}
theorem lock_cases {α : Type} {g : En → Sto → Option Nat} {f : En → M α} {σd : En} {S : Sto} {μ : Nat → Addr} {H : Hp} {Q : α → Sto → (Nat → Addr) → Hp → Prop} (h : Post G μ S H W Q (lockM g f σd S)) :
    ∃ l o a S', S.objs[l]? = some o ∧ isCont o = true ∧ S.locked l = false ∧ f σd { S with lck := l :: S.lck } = .ok a S' ∧ S'.lck = l :: S.lck ∧ Post G μ S H W Q (.ok a { S' with lck := S.lck }) := by
  unfold lockM at h
  cases e1 : g σd S with
  | none => rw [e1] at h; exact h.elim
  | some l =>
    simp only [e1] at h
    by_cases hl : S.locked l = true
    · rw [if_pos hl] at h; exact h.elim
    · rw [if_neg hl] at h
      cases e2 : S.objs[l]? with
      | none => rw [e2] at h; exact h.elim
      | some o =>
        simp only [e2] at h
        by_cases hc : isCont o = true
        · rw [if_pos hc] at h
          cases e3 : f σd { S with lck := l :: S.lck } with
          | exc c S' => rw [e3] at h; exact h.elim
          | stk => rw [e3] at h; exact h.elim
          | ok a S' =>
            simp only [e3] at h
            by_cases he : S'.lck = l :: S.lck
            · rw [if_pos he] at h
              exact ⟨l, o, a, S', e2, hc, by simpa using hl, e3, he, h⟩
            · rw [if_neg he] at h; exact h.elim
        · rw [if_neg hc] at h; exact h.elim
theorem ss_lock (g : En → Sto → Option Nat) (h : SS X G W st f) : SS X G W st (lockM g f) := by
  refine ps_imp (ps_lock h) fun Dn σ H ⟨σd, S, μ, a, p⟩ => ?_
  obtain ⟨l, o, fl, S', eo, hc, hl, ef, el, p⟩ := lock_cases p
  obtain ⟨u, hu, mu, nf, lk⟩ := Stp.lock a.lnk eo hc hl
  refine ⟨μ l, u, hu, mu, fun od => ⟨σd, { S with lck := l :: S.lck }, μ, a.step (lk od), ?_⟩⟩
  rw [ef]
  intro μ' H' s
  obtain ⟨fz, s2, m⟩ := Stp.unlock a.lnk eo hc hl hu nf s el
  have q := p μ' _ s2
  have men : ∀ σd σ, REn G μ' S'.n H' σd σ → REn G μ' S'.n (upd H' (μ l) u) σd σ := fun σd σ r => ⟨r.len, fun i d e => by
    obtain ⟨v, h1, h2⟩ := r.at_ i d e
    exact ⟨v, h1, m d v h2⟩⟩
  cases fl with
  | nx σd' => exact fun σ' en => ⟨fz, q σ' (men _ _ en)⟩
  | bk σd' => exact fun σ' en => ⟨fz, q σ' (men _ _ en)⟩
  | ct σd' => exact fun σ' en => ⟨fz, q σ' (men _ _ en)⟩
  | rt d => exact fun v r => ⟨fz, q v (m d v r)⟩
theorem se_lock (g : En → Sto → Option Nat) (h : SE X G W e fe) : SE X G W e (lockM g fe) := by
  refine pe_imp (pe_lock h) fun σ H Q ⟨σd, S, μ, a, p⟩ => ?_
  obtain ⟨l, o, d, S', eo, hc, hl, ef, el, p⟩ := lock_cases p
  obtain ⟨u, hu, mu, nf, lk⟩ := Stp.lock a.lnk eo hc hl
  refine ⟨μ l, u, hu, mu, fun od => ⟨σd, { S with lck := l :: S.lck }, μ, a.step (lk od), ?_⟩⟩
  rw [ef]
  intro μ' H' s v r
  obtain ⟨fz, s2, m⟩ := Stp.unlock a.lnk eo hc hl hu nf s el
  exact ⟨fz, p μ' _ s2 v (m d v r)⟩
/-! ### a value that stays as it is: its object is known from now on -/
def tFrz (t : TE) : TE := fun σ H Q => t σ H fun x H1 => ∃ p u, x = .ref p ∧ H1 p = some u ∧ Mut (some u) ∧ ∀ od, Q x (upd H1 p (.frz od u))
theorem pe_frz {t : TE} (h : PE X e t) : PE X e (tFrz t) := ⟨fun pins s σ H Q I q => thn (h.run pins s σ H _ I q) fun v s1 ⟨x, H1, I1, r, p, u, ex, hu, mu, q⟩ => by
  obtain ⟨od, I2⟩ := I1.lock hu mu
  exact ⟨x, _, I2, r, q od⟩⟩
/-! ### sources -/
/-- the things in order of a list, a tuple, a text, a dict that is known or locked -/
def itemsOf : D → M (List D) := fun x S => match x with
  | .tup ds => .ok ds S
  | .kt ds => .ok ds S
  | .lst ds => .ok ds S
  | .str z => .ok (z.cps.toList.map fun c => .str ⟨#[c]⟩) S
  | .dct _ kvs => .ok (kvs.map fun p => dkD p.1) S
  | .ref l => if S.locked l = true then (match S.objs[l]? with
    | some (.lst ds) => .ok ds S
    | some (.dct _ kvs) => .ok (kvs.map fun p => dkD p.1) S
    | _ => .stk) else .stk
  | _ => .stk
def itSeq (fe : En → M D) : En → M (List D) := fun σ => fe σ >>= itemsOf
theorem rvs_get {μ : Nat → Addr} {n : Nat} {H : Hp} : ∀ {ds : List D} {vs : List V} {j : Nat} {d : D}, RVs G μ n H ds vs → ds[j]? = some d → ∃ v, vs[j]? = some v ∧ RV G μ n H d v
  | [], _, _, _, _, e => by simp at e
  | x :: xs, _, 0, d, ⟨v, r', e1, h1, h2⟩, e => by
    simp at e; subst e e1
    exact ⟨v, rfl, h1⟩
  | x :: xs, _, j + 1, d, ⟨v, r', e1, h1, h2⟩, e => by
    subst e1
    rw [List.getElem?_cons_succ] at e
    obtain ⟨w, h3, h4⟩ := rvs_get h2 e
    exact ⟨w, by rw [List.getElem?_cons_succ]; exact h3, h4⟩
theorem itok_list {μ : Nat → Addr} {S : Sto} {H : Hp} (L : Lnk G μ S H) {K : PySem.W.Frag} {a : Addr} {ds : List D} {vs : List V} (r : RVs G μ S.n H ds vs) (h : (H a = some (.lst vs) ∧ NotOwn μ S.n a) ∨ ∃ od, H a = some (.frz od (.lst vs))) : ItOk G (Itl K a) μ S H ds := fun μ' S' H' s => by
  have hs : SqL K H' a vs := by
    rcases h with ⟨h, no⟩ | ⟨od, h⟩
    · exact .of (s.grow.ext.keep a _ h no (fun _ e => by cases e))
    · exact .inl (.inr ⟨od, s.grow.ext.frz _ _ _ h⟩)
  refine ⟨fun i hi => ?_, ⟨vs, hs, by rw [r.length]; exact Nat.le_refl _⟩, fun i d e x H'' ⟨e1, e2⟩ => ?_⟩
  · obtain ⟨v, hv, _⟩ := rvs_get r (List.getElem?_eq_getElem hi)
    exact ⟨vs, v, hs, hv⟩
  · subst e1
    obtain ⟨v, hv, rv⟩ := rvs_get (s.rvs L r) e
    have q := e2 vs hs
    rw [hv] at q; cases q
    exact ⟨.refl s.lnk, rv⟩
theorem itok_tup {μ : Nat → Addr} {S : Sto} {H : Hp} (L : Lnk G μ S H) {K : PySem.W.Frag} {a : Addr} {ds : List D} {vs : List V} (r : RVs G μ S.n H ds vs) (h : H a = some (.tup vs) ∨ KTup K a vs) : ItOk G (Itt K a) μ S H ds := fun μ' S' H' s => by
  have hs : SqT K H' a vs := by
    rcases h with h | h
    · exact .of (tup_keep s.grow.ext L.tf h)
    · exact .inr h
  refine ⟨fun i hi => ?_, ⟨vs, hs, by rw [r.length]; exact Nat.le_refl _⟩, fun i d e x H'' ⟨e1, e2⟩ => ?_⟩
  · obtain ⟨v, hv, _⟩ := rvs_get r (List.getElem?_eq_getElem hi)
    exact ⟨vs, v, hs, hv⟩
  · subst e1
    obtain ⟨v, hv, rv⟩ := rvs_get (s.rvs L r) e
    have q := e2 vs hs
    rw [hv] at q; cases q
    exact ⟨.refl s.lnk, rv⟩
theorem itok_str {μ : Nat → Addr} {S : Sto} {H : Hp} (z : Str) : ItOk G (Its z) μ S H (z.cps.toList.map fun c => .str ⟨#[c]⟩) := fun μ' S' H' s => by
  refine ⟨fun i hi => ?_, ?_, fun i d e x H'' ⟨e1, c, e2, e3⟩ => ?_⟩
  · rw [List.length_map] at hi
    show i < z.cps.size
    simpa using hi
  · rw [List.length_map]
    show z.cps.size ≤ z.cps.toList.length
    simp
  · subst e1 e3
    rw [List.getElem?_map, Array.getElem?_toList, e2] at e
    cases e
    exact ⟨.refl s.lnk, rfl⟩
theorem rvk_keys {μ : Nat → Addr} {n : Nat} {H : Hp} {kvs : List (DK × D)} {vs : List (DK × V)} (r : RVk G μ n H kvs vs) : kvs.map (·.1) = vs.map (·.1) := by
  have q := r.paired
  clear r
  induction q with
  | nil => rfl
  | cons h t ih => rw [List.map_cons, List.map_cons, h.1, ih]
theorem itok_dct {μ : Nat → Addr} {S : Sto} {H : Hp} {d : Addr} {od : Obj} {t : Bool} {kvs : List (DK × D)} {vs : List (DK × V)} {o : HO} (r : RVk G μ S.n H kvs vs) (h : HOd t vs o) (hf : H d = some (.frz od o)) :
    (∃ l, o = .dK l ∧ ItOk G (Itk d od l) μ S H (kvs.map fun p => dkD p.1)) ∨ ∃ l, o = .dT l ∧ ItOk G (Itkt d od l) μ S H (kvs.map fun p => dkD p.1) := by
  have ek := rvk_keys r
  have el := r.length
  cases h with
  | k l =>
    refine .inl ⟨l, rfl, fun μ' S' H' s => ?_⟩
    have hf' := s.grow.ext.frz _ _ _ hf
    have hn : kvs.length = l.length := by rw [el, List.length_map]
    refine ⟨fun i hi => ⟨hf', by rw [List.length_map] at hi; omega⟩, ⟨hf', by rw [List.length_map]; omega⟩, fun i dd e x H'' ⟨e1, k, v, e2, e3⟩ => ?_⟩
    subst e1 e3
    rw [List.getElem?_map] at e
    cases e4 : kvs[i]? with
    | none => rw [e4] at e; cases e
    | some p =>
      rw [e4] at e
      cases e
      have z : (kvs.map (·.1))[i]? = some p.1 := by rw [List.getElem?_map, e4]; rfl
      rw [ek, List.map_map, List.getElem?_map, e2] at z
      have z : some (DK.k k) = some p.1 := z
      refine ⟨.refl s.lnk, ?_⟩
      show RV G _ _ _ (dkD p.1) _
      rw [← (Option.some.inj z)]
      cases k <;> rfl
  | t l =>
    refine .inr ⟨l, rfl, fun μ' S' H' s => ?_⟩
    have hf' := s.grow.ext.frz _ _ _ hf
    have hn : kvs.length = l.length := by rw [el, List.length_map]
    refine ⟨fun i hi => ⟨hf', by rw [List.length_map] at hi; omega⟩, ⟨hf', by rw [List.length_map]; omega⟩, fun i dd e x H'' ⟨e1, k, v, q, e2, e3, e5⟩ => ?_⟩
    subst e1 e3
    rw [List.getElem?_map] at e
    cases e4 : kvs[i]? with
    | none => rw [e4] at e; cases e
    | some p =>
      rw [e4] at e
      cases e
      have z : (kvs.map (·.1))[i]? = some p.1 := by rw [List.getElem?_map, e4]; rfl
      rw [ek, List.map_map, List.getElem?_map, e2] at z
      have z : some (DK.t k) = some p.1 := z
      refine ⟨.refl s.lnk, ?_⟩
      show RV G _ _ _ (dkD p.1) _
      rw [← (Option.some.inj z)]
      refine ⟨q, _, rfl, e5, ?_⟩
      have key : ∀ ks : List Key, RVs G μ' S'.n H'' (ks.map kD) (ks.map kV) := by
        intro ks
        induction ks with
        | nil => rfl
        | cons a r ih => exact ⟨kV a, _, rfl, by cases a <;> rfl, ih⟩
      exact key k
theorem si_seq {tg : Expr} (hK : G.K = X.K) (he : SE X G W e fe) : SI X G W tg e (itSeq fe) := by
  refine pi_imp (pi_or (pi_or (pi_list he) (pi_tup he)) (pi_or (pi_str he) (pi_keys he))) fun σ H R ⟨σd, S, μ, a, h⟩ => ?_
  have h := Post.bind (k := itemsOf) h
  -- by what comes
  have go : ∀ (T : VK), (∀ d S1 μ1 H1 v, Stp G μ S H μ1 S1 H1 → RV G μ1 S1.n H1 d v → Post G μ1 S1 H1 W (fun ds S' μ' H' => ∀ J, ItOk G J μ' S' H' ds → R J H') (itemsOf d S1) → fe σd S = .ok d S1 → T v H1) → rdE G W fe σ H T := fun T hT => by
    refine ⟨σd, S, μ, a, ?_⟩
    cases e1 : fe σd S with
    | ok d S1 =>
      rw [e1] at h
      exact fun μ1 H1 s v r => hT d S1 μ1 H1 v s r (h μ1 H1 s) e1
    | exc c S1 => rw [e1] at h; exact h
    | stk => rw [e1] at h; exact h
  cases e1 : fe σd S with
  | exc c S1 => exact .inl (.inl (go _ fun d S2 μ1 H1 v s r p ef => by rw [e1] at ef; cases ef))
  | stk => rw [e1] at h; exact h.elim
  | ok d S1 =>
    cases d with
    | tup ds =>
      refine .inl (.inr (go _ fun d' S2 μ1 H1 v s r p ef => ?_))
      rw [e1] at ef; cases ef
      obtain ⟨ad, vs, rfl, h1, h2⟩ := r
      exact ⟨ad, rfl, ⟨vs, .of h1⟩, (Post.here (W := W) s.lnk p) _ (itok_tup s.lnk h2 (.inl h1))⟩
    | kt ds =>
      refine .inl (.inr (go _ fun d' S2 μ1 H1 v s r p ef => ?_))
      rw [e1] at ef; cases ef
      obtain ⟨ad, vs, rfl, h1, h2⟩ := r
      rw [hK] at h1
      exact ⟨ad, rfl, ⟨vs, .inr h1⟩, (Post.here (W := W) s.lnk p) _ (itok_tup s.lnk h2 (.inr h1))⟩
    | lst ds =>
      refine .inl (.inl (go _ fun d' S2 μ1 H1 v s r p ef => ?_))
      rw [e1] at ef; cases ef
      obtain ⟨ad, vs, rfl, no, h1, h2⟩ := r
      exact ⟨ad, rfl, ⟨vs, .of h1⟩, (Post.here (W := W) s.lnk p) _ (itok_list s.lnk h2 (.inl ⟨h1, no⟩))⟩
    | str z =>
      refine .inr (.inl (go _ fun d' S2 μ1 H1 v s r p ef => ?_))
      rw [e1] at ef; cases ef
      exact ⟨z, r, (Post.here (W := W) s.lnk p) _ (itok_str z)⟩
    | dct t kvs =>
      refine .inr (.inr (go _ fun d' S2 μ1 H1 v s r p ef => ?_))
      rw [e1] at ef; cases ef
      obtain ⟨ad, vs, od, o, rfl, no, h1, h2, h3⟩ := r
      refine ⟨ad, od, rfl, ?_⟩
      rcases itok_dct h3 h2 h1 with ⟨l, rfl, z⟩ | ⟨l, rfl, z⟩
      · exact .inl ⟨l, h1, (Post.here (W := W) s.lnk p) _ z⟩
      · exact .inr ⟨l, h1, (Post.here (W := W) s.lnk p) _ z⟩
    | ref l =>
      rw [e1] at h
      by_cases hl : S1.locked l = true
      · cases eo : S1.objs[l]? with
        | none =>
          refine .inl (.inl (go _ fun d' S2 μ1 H1 v s r p ef => ?_))
          rw [e1] at ef; cases ef
          unfold itemsOf at p
          simp only [hl, if_true, eo] at p
          exact p.elim
        | some o =>
          cases o with
          | lst ds =>
            refine .inl (.inl (go _ fun d' S2 μ1 H1 v s r p ef => ?_))
            rw [e1] at ef; cases ef
            unfold itemsOf at p
            simp only [hl, if_true, eo] at p
            obtain ⟨_, h2⟩ := r
            obtain ⟨vs, q1, q2⟩ := s.lnk.ob l _ eo
            rw [hl] at q1
            obtain ⟨od, q1⟩ := (show ∃ od, H1 (μ1 l) = some (.frz od (.lst vs)) from q1)
            exact ⟨_, h2, ⟨vs, .inl (.inr ⟨od, q1⟩)⟩, (Post.here (W := W) s.lnk p) _ (itok_list s.lnk q2 (.inr ⟨od, q1⟩))⟩
          | dct t kvs =>
            refine .inr (.inr (go _ fun d' S2 μ1 H1 v s r p ef => ?_))
            rw [e1] at ef; cases ef
            unfold itemsOf at p
            simp only [hl, if_true, eo] at p
            obtain ⟨_, h2⟩ := r
            obtain ⟨vs, o, q1, q2, q3⟩ := s.lnk.ob l _ eo
            rw [hl] at q1
            obtain ⟨od, q1⟩ := (show ∃ od, H1 (μ1 l) = some (.frz od o) from q1)
            refine ⟨_, od, h2, ?_⟩
            rcases itok_dct q3 q2 q1 with ⟨l, rfl, z⟩ | ⟨l, rfl, z⟩
            · exact .inl ⟨l, q1, (Post.here (W := W) s.lnk p) _ z⟩
            · exact .inr ⟨l, q1, (Post.here (W := W) s.lnk p) _ z⟩
          | ins c fs =>
            refine .inl (.inl (go _ fun d' S2 μ1 H1 v s r p ef => ?_))
            rw [e1] at ef; cases ef
            unfold itemsOf at p
            simp only [hl, if_true, eo] at p
            exact p.elim
      · refine .inl (.inl (go _ fun d' S2 μ1 H1 v s r p ef => ?_))
        rw [e1] at ef; cases ef
        unfold itemsOf at p
        simp only [hl, if_false] at p
        exact p.elim
    | _ =>
      refine .inl (.inl (go _ fun d' S2 μ1 H1 v s r p ef => ?_))
      rw [e1] at ef; cases ef
      exact p.elim
end
end Fd

set_option Elab.async false
set_option linter.all false
set_option maxRecDepth 100000
set_option maxHeartbeats 1000000
namespace Fd
open PySem PySem.Spec PyProof.Rows L2
/-! ### fields -/
def putFd (f : Str) (v : D) : List (Str × D) → List (Str × D)
  | [] => [(f, v)]
  | (g, x) :: r => if g = f then (g, v) :: r else (g, x) :: putFd f v r
def getF (c : Nat) (S : Sto) : D → Option (Nat × List (Str × D))
  | .ref l => match S.objs[l]? with
    | some (.ins c' fs) => if c' = c then some (l, fs) else none
    | _ => none
  | _ => none
def fldO (c : Nat) (f : Str) : D → M D := fun x S => match getF c S x with
  | some (_, fs) => (match fs.lookup f with
    | some d => .ok d S
    | none => .stk)
  | none => .stk
section
variable {G : Gx} {μ : Nat → Addr} {S : Sto} {H : Hp}
theorem rvf_lookup {n : Nat} {f : Str} {d : D} : ∀ {fs : List (Str × D)} {vs : List (Str × V)}, RVf G μ n H fs vs → fs.lookup f = some d → ∃ v, vs.lookup f = some v ∧ RV G μ n H d v
  | [], _, _, e => by cases e
  | (g, x) :: fs, (g', y) :: vs, .cons ⟨e1, r⟩ t, e => by
    have e1 : g = g' := e1
    subst e1
    rw [List.lookup_cons] at e ⊢
    cases hb : f == g with
    | true =>
      rw [hb] at e
      cases e
      exact ⟨y, rfl, r⟩
    | false =>
      rw [hb] at e
      exact rvf_lookup t e
theorem rvf_none {n : Nat} {f : Str} : ∀ {fs : List (Str × D)} {vs : List (Str × V)}, RVf G μ n H fs vs → fs.lookup f = none → vs.lookup f = none
  | [], [], .nil, _ => rfl
  | (g, x) :: fs, (g', y) :: vs, .cons ⟨e1, r⟩ t, e => by
    have e1 : g = g' := e1
    subst e1
    rw [List.lookup_cons] at e ⊢
    cases hb : f == g with
    | true => rw [hb] at e; cases e
    | false =>
      rw [hb] at e
      exact rvf_none t e
theorem rvf_put {n : Nat} {f : Str} {d : D} {v : V} (r : RV G μ n H d v) : ∀ {fs : List (Str × D)} {vs : List (Str × V)}, RVf G μ n H fs vs → RVf G μ n H (putFd f d fs) (putF f v vs)
  | [], [], .nil => .cons ⟨rfl, r⟩ .nil
  | (g, x) :: fs, (g', y) :: vs, .cons ⟨e1, r1⟩ t => by
    have e1 : g = g' := e1
    subst e1
    unfold putFd putF
    by_cases h : g = f
    · rw [if_pos h, if_pos h]
      exact .cons ⟨rfl, r⟩ t
    · rw [if_neg h, if_neg h]
      exact .cons ⟨rfl, r1⟩ (rvf_put r t)
theorem getF_ok (L : Lnk G μ S H) {c l : Nat} {d : D} {v : V} {fs : List (Str × D)} (r : RV G μ S.n H d v) (e : getF c S d = some (l, fs)) : d = .ref l ∧ l < S.n ∧ S.objs[l]? = some (.ins c fs) ∧ v = .ref (μ l) ∧ ∃ dx fs', H (μ l) = some (.ins (G.cA c) dx fs') ∧ RVf G μ S.n H fs fs' := by
  cases d with
  | ref l' =>
    obtain ⟨h1, h2⟩ := r
    unfold getF at e
    cases eo : S.objs[l']? with
    | none => simp only [eo] at e; cases e
    | some o =>
      cases o with
      | lst _ => simp only [eo] at e; cases e
      | dct _ _ => simp only [eo] at e; cases e
      | ins c' fs' =>
        simp only [eo] at e
        by_cases hc : c' = c
        · rw [if_pos hc] at e
          cases e
          subst hc
          obtain ⟨dx, fs2, q1, q2⟩ := L.ob _ _ eo
          exact ⟨rfl, h1, eo, h2, dx, fs2, q1, q2⟩
        · rw [if_neg hc] at e; cases e
  | _ => cases e
end
section
variable {X : Cx} {G : Gx} {W : XK} {e o : Expr} {fe fo : En → M D} {pos pos' tpos : Pos} {f : Str} {c : Nat}
def fldE (c : Nat) (f : Str) (fe : En → M D) : En → M D := fun σ => fe σ >>= fldO c f
theorem se_fld (c : Nat) (T : Cls X.K (G.cA c)) (nf : NoAttr X.K (G.cA c) f) (he : SE X G W e fe) (hb : attributeBase e f X.env (eval e X.env) = eval e X.env := by rfl) : SE X G W (.Attribute e f pos) (fldE c f fe) := by
  refine pe_imp (pe_fld he hb) fun σ H Q ⟨σd, S, μ, a, h⟩ => ?_
  refine rdE_bind (k := fun _ => fldO c f) a h fun d S1 μ1 H1 v s a1 r p => ?_
  unfold fldO at p
  cases e1 : getF c S1 d with
  | none => rw [e1] at p; exact p.elim
  | some q =>
    obtain ⟨l, fs⟩ := q
    simp only [e1] at p
    cases e2 : fs.lookup f with
    | none => rw [e2] at p; exact p.elim
    | some dv =>
      rw [e2] at p
      obtain ⟨_, _, _, h2, dx, fs', h3, h4⟩ := getF_ok a1.lnk r e1
      obtain ⟨w, h5, h6⟩ := rvf_lookup h4 e2
      exact ⟨μ1 l, _, dx, fs', w, h2, h3, T, nf, h5, (Post.here (W := W) a1.lnk p) w h6⟩
/-- the store behind o.f = d -/
def setFld (c : Nat) (f : Str) (x d : D) : M Unit := fun S => match getF c S x with
  | some (l, fs) => if fs.length < 1000 ∧ S.locked l = false then .ok () (S.put l (.ins c (putFd f d fs))) else .stk
  | none => .stk
theorem stp_fld {μ : Nat → Addr} {S : Sto} {H : Hp} (L : Lnk G μ S H) {c l : Nat} {d dv : D} {v w : V} {fs : List (Str × D)} (r : RV G μ S.n H d v) (e : getF c S d = some (l, fs)) (hk : S.locked l = false) (rw' : RV G μ S.n H dv w) {dx : Addr} {fs' : List (Str × V)} (h3 : H (μ l) = some (.ins (G.cA c) dx fs')) (h4 : RVf G μ S.n H fs fs') :
    Stp G μ S H μ (S.put l (.ins c (putFd f dv fs))) (upd H (μ l) (.ins (G.cA c) dx (putF f w fs'))) := by
  obtain ⟨_, hl, eo, _, _⟩ := getF_ok L r e
  have g := grow_put (u := .ins (G.cA c) dx (putF f w fs')) L hl h3 (fun _ _ e => by cases e) (fun _ e => by cases e)
  exact Stp.put L hl hk h3 (fun _ _ e => by cases e) (fun _ e => by cases e) (fun _ e => by cases e) (fun _ e => by cases e) ⟨dx, _, upd_same, RVf.mono g L.tf (rvf_put rw' h4)⟩
def fldS (c : Nat) (f : Str) (fo fv : En → M D) : En → M Fl := fun σ => fv σ >>= fun d => fo σ >>= fun x => setFld c f x d >>= fun _ => M.pure (Fl.nx σ)
theorem ss_fld (c : Nat) (T : Cls X.K (G.cA c)) (nf : NoAttr X.K (G.cA c) f) (ho : SE X G W o fo) (hv : SE X G W e fe) (hs : swapsWith e (some (.Attribute o f pos')) pos.line X.env = pure false := by rfl) : SS X G W (.Assign [.Attribute o f pos'] e pos) (fldS c f fo fe) := by
  refine ps_imp (ps_fld ho hv hs) fun Dn σ H ⟨σd, S, μ, a, h⟩ => ?_
  refine rdE_bind (k := fun σ d => fo σ >>= fun x => setFld c f x d >>= fun _ => M.pure (Fl.nx σ)) a h fun dv S1 μ1 H1 w s a1 rv p => ?_
  refine rdE_bind (k := fun σ x => setFld c f x dv >>= fun _ => M.pure (Fl.nx σ)) a1 p fun d S2 μ2 H2 v s2 a2 r p => ?_
  have p := Post.bind (k := fun _ => M.pure (Fl.nx σd)) p
  unfold setFld at p
  cases e1 : getF c S2 d with
  | none => rw [e1] at p; exact p.elim
  | some q =>
    obtain ⟨l, fs⟩ := q
    simp only [e1] at p
    by_cases hc : fs.length < 1000 ∧ S2.locked l = false
    · rw [if_pos hc] at p
      obtain ⟨_, _, _, h2, dx, fs', h3, h4⟩ := getF_ok a2.lnk r e1
      have rv2 := s2.rv a1.lnk rv
      have st := stp_fld (f := f) a2.lnk r e1 hc.2 rv2 h3 h4
      have a3 := a2.step st
      exact ⟨μ2 l, _, dx, fs', h2, h3, T, nf, by rw [← Paired.length h4]; exact hc.1, (Post.here (W := W) a3.lnk (Post.step st p)) σ a3.en⟩
    · rw [if_neg hc] at p; exact p.elim
theorem inop_of {op : Operator} {g : D → D → M D} (h : OpD X G W (inplaceOp op) g) : InOp X op (rd2 G W g) := fun pins s σ H x y u v Q I rx ry q => h pins s σ H x y u v Q I rx ry q
def fldAugS (c : Nat) (f : Str) (op : D → D → M D) (fo fv : En → M D) : En → M Fl := fun σ => fo σ >>= fun x => fldO c f x >>= fun d => fv σ >>= fun y => op d y >>= fun z => setFld c f x z >>= fun _ => M.pure (Fl.nx σ)
theorem ss_fldaug (c : Nat) {opr : Operator} {op : D → D → M D} (hop : OpD X G W (inplaceOp opr) op) (T : Cls X.K (G.cA c)) (nf : NoAttr X.K (G.cA c) f) (ho : SE X G W o fo) (hv : SE X G W e fe) (hs : attributeBase o f X.env (eval o X.env) = eval o X.env := by rfl) : SS X G W (.AugAssign (.Attribute o f tpos) opr e pos) (fldAugS c f op fo fe) := by
  refine ps_imp (ps_fldaug ho hv (inop_of hop)) fun Dn σ H ⟨σd, S, μ, a, h⟩ => ?_
  refine rdE_bind (k := fun σ x => fldO c f x >>= fun d => fe σ >>= fun y => op d y >>= fun z => setFld c f x z >>= fun _ => M.pure (Fl.nx σ)) a h fun d S1 μ1 H1 v s a1 r p => ?_
  have p := Post.bind (k := fun d1 => fe σd >>= fun y => op d1 y >>= fun z => setFld c f d z >>= fun _ => M.pure (Fl.nx σd)) p
  unfold fldO at p
  cases e1 : getF c S1 d with
  | none => rw [e1] at p; exact p.elim
  | some q =>
    obtain ⟨l, fs⟩ := q
    simp only [e1] at p
    cases e2 : fs.lookup f with
    | none => rw [e2] at p; exact p.elim
    | some dv =>
      rw [e2] at p
      obtain ⟨_, _, _, h2, dx, fs', h3, h4⟩ := getF_ok a1.lnk r e1
      obtain ⟨w, h5, h6⟩ := rvf_lookup h4 e2
      have p := Post.here (W := W) a1.lnk p
      refine ⟨μ1 l, _, dx, fs', w, h2, h3, T, nf, h5, ?_⟩
      refine rdE_bind (k := fun σ y => op dv y >>= fun z => setFld c f d z >>= fun _ => M.pure (Fl.nx σ)) a1 p fun y S2 μ2 H2 vy s2 a2 ry p => ?_
      refine ⟨dv, y, S2, μ2, a2.lnk, s2.rv a1.lnk h6, ry, (Post.bind (k := fun z => setFld c f d z >>= fun _ => M.pure (Fl.nx σd)) p).mono fun z S3 μ3 H3 s3 p w3 rz => ?_⟩
      have p := Post.bind (k := fun _ => M.pure (Fl.nx σd)) p
      unfold setFld at p
      have r3 := s3.rv a2.lnk (s2.rv a1.lnk r)
      cases e3 : getF c S3 d with
      | none => rw [e3] at p; exact p.elim
      | some q =>
        obtain ⟨l', fs2⟩ := q
        simp only [e3] at p
        by_cases hc : fs2.length < 1000 ∧ S3.locked l' = false
        · rw [if_pos hc] at p
          have a3 := a2.step s3
          obtain ⟨ed, hl, _, h2', dx', fs3, h3', h4'⟩ := getF_ok a3.lnk r3 e3
          have ed1 := (getF_ok a1.lnk r e1).1
          have el : l' = l := by rw [ed1] at ed; cases ed; rfl
          subst el
          have hl1 := (getF_ok a1.lnk r e1).2.1
          have m1 : μ3 l' = μ1 l' := (s2.trans s3).grow.agr.2 l' hl1
          have st := stp_fld (f := f) a3.lnk r3 e3 hc.2 rz h3' h4'
          have a4 := a3.step st
          rw [m1] at h3' st
          have q := (Post.here (W := W) a4.lnk (Post.step (stp_fld (f := f) a3.lnk r3 e3 hc.2 rz (by rw [m1]; exact h3') h4') p)) σ a4.en
          rw [m1] at q
          exact ⟨dx', fs3, h3', by rw [← Paired.length h4']; exact hc.1, q⟩
        · rw [if_neg hc] at p; exact p.elim

/-! ### calls of built-ins by values -/
abbrev rdC (G : Gx) (W : XK) (g : List D → M D) : List V → Hp → VK → Prop := fun vs H Q => ∃ ds S μ, Lnk G μ S H ∧ RVs G μ S.n H ds vs ∧ Post G μ S H W (fun d S' μ' H' => ∀ v, RV G μ' S'.n H' d v → Q v H') (g ds S)
def CallD (X : Cx) (G : Gx) (W : XK) (f : Value) (g : List D → M D) : Prop := CallR X f (rdC G W g)
theorem callR_imp {f : Value} {r r' : List V → Hp → VK → Prop} (h : CallR X f r) (m : ∀ xs H Q, r' xs H Q → r xs H Q) : CallR X f r' := fun pins s σ H xs us Q I rx q => h pins s σ H xs us Q I rx (m xs H Q q)
def altC (c : List D → Sto → Bool) (g1 g2 : List D → M D) : List D → M D := fun ds S => if c ds S = true then g1 ds S else g2 ds S
theorem callD_alt {f : Value} {g1 g2 : List D → M D} (c : List D → Sto → Bool) (h1 : CallD X G W f g1) (h2 : CallD X G W f g2) : CallD X G W f (altC c g1 g2) := fun pins s σ H xs us Q I rx ⟨ds, S, μ, L, r, p⟩ => by
  unfold altC at p
  by_cases hc : c ds S = true
  · rw [if_pos hc] at p
    exact h1 pins s σ H xs us Q I rx ⟨ds, S, μ, L, r, p⟩
  · rw [if_neg hc] at p
    exact h2 pins s σ H xs us Q I rx ⟨ds, S, μ, L, r, p⟩
def callE (fr : En → M (List D)) (g : List D → M D) : En → M D := fun σ => fr σ >>= g
variable {es : List Expr} {fr : En → M (List D)} {g : List D → M D} {x : Str} {p : Pos}
theorem rd_callE : ∀ σ H Q, rdE G W (callE fr g) σ H Q → rdA G W fr σ H (fun vs H1 => rdC G W g vs H1 Q) := fun σ H Q ⟨σd, S, μ, a, h⟩ =>
  rdA_bind (k := fun _ ds => g ds) a h fun ds S1 μ1 H1 vs s a1 r p => ⟨ds, S1, μ1, a1.lnk, r, p⟩
theorem se_callB {id : String} (hc : CallD X G W (.builtin id) g) (hm : X.mg x = none) (ha : SA X G W (e :: es) fr) (hg : Gl X x := by rfl) (hv : bootBuiltins x = some (.builtin id) := by decide +kernel) (hn : x ≠ "__name__" := by decide) (hdb : (x == ("__debug__" : Str)) = false := by decide)
    (he : starEach (e :: es) X.env = (false, eval e X.env) :: starEach es X.env := by rfl) (hpl : (backTo pos (starEach es X.env)).any (·.1) = false := by rfl) : SE X G W (.Call (.Name x p) (e :: es) [] pos) (callE fr g) :=
  pe_imp (pe_callB hc hg hm hv ha hn hdb he hpl) rd_callE
theorem se_callTy {T : String} (hc : CallD X G W (.type T) g) (hm : X.mg x = none) (ha : SA X G W (e :: es) fr) (hg : Gl X x := by rfl) (hv : bootBuiltins x = some (.type T) := by decide +kernel) (hn : x ≠ "__name__" := by decide) (hdb : (x == ("__debug__" : Str)) = false := by decide)
    (he : starEach (e :: es) X.env = (false, eval e X.env) :: starEach es X.env := by rfl) (hpl : (backTo pos (starEach es X.env)).any (·.1) = false := by rfl) : SE X G W (.Call (.Name x p) (e :: es) [] pos) (callE fr g) :=
  pe_imp (pe_callTy hc hg hm hv ha hn hdb he hpl) rd_callE
/-! ### defs -/
def spD (G : Gx) (n : Nat) (den : List D → M D) : Sp := fun vs H Q E => ∃ ds S μ, ds.length = n ∧ RVs G μ S.n H ds vs ∧ Lnk G μ S H ∧ Post G μ S H E (fun d S' μ' H' => ∀ v, RV G μ' S'.n H' d v → Q v H') (den ds S)
def arg (n : Nat) (den : List D → M D) : List D → M D := fun ds => if ds.length = n then den ds else M.stk
abbrev FnD (P : Program) (w : World) (mg : Str → Option Value) (base : Heap) (G : Gx) (k : Nat) (f : Addr) (fd : FuncData) (ps : List Str) (den : List D → M D) : Prop := FnOk P w G.K mg base (L2.CX P w) k f fd ps (spD G ps.length den)
abbrev TakesD (X : Cx) (W : XK) : Prop := Takes X (fun cls d _ H => W cls d H)
theorem sp_arg {n : Nat} {den : List D → M D} {μ : Nat → Addr} {S : Sto} {H : Hp} {ds : List D} {vs : List V} {Q : VK} (L : Lnk G μ S H) (r : RVs G μ S.n H ds vs) (p : Post G μ S H W (fun d S' μ' H' => ∀ v, RV G μ' S'.n H' d v → Q v H') (arg n den ds S)) : spD G n den vs H Q W := by
  unfold arg at p
  by_cases h : ds.length = n
  · rw [if_pos h] at p
    exact ⟨ds, S, μ, h, r, L, p⟩
  · rw [if_neg h] at p; exact p.elim
variable {k : Nat} {fa : Addr} {fd : FuncData} {ps : List Str} {den : List D → M D}
theorem se_call (F : FnOk X.prog X.w X.K X.mg X.base (L2.CX X.prog X.w) k fa fd ps (spD G ps.length den)) (hr : Room k X.A) (hm : X.mg x = some (.ref fa)) (hk : PySem.W.keepIn X.K (.ref fa) = true) (hb : Binds X.K fd ps []) (tk : TakesD X W) (ha : SA X G W (e :: es) fr)
    (hg : Gl X x := by rfl) (hdb : (x == ("__debug__" : Str)) = false := by decide) (he : starEach (e :: es) X.env = (false, eval e X.env) :: starEach es X.env := by rfl) (hpl : (backTo pos (starEach es X.env)).any (·.1) = false := by rfl) :
    SE X G W (.Call (.Name x p) (e :: es) [] pos) (callE fr (arg ps.length den)) :=
  pe_imp (pe_call F hr hg hm hk hb .nil (passes_call tk fun _ _ _ _ h => h) ha hdb he hpl) fun σ H Q ⟨σd, S, μ, a, h⟩ =>
    rdA_bind (k := fun _ ds => arg ps.length den ds) a h fun ds S1 μ1 H1 vs s a1 r p => by
      rw [List.append_nil]
      exact sp_arg a1.lnk r p
theorem se_call0 (F : FnOk X.prog X.w X.K X.mg X.base (L2.CX X.prog X.w) k fa fd ps (spD G ps.length den)) (hr : Room k X.A) (hm : X.mg x = some (.ref fa)) (hk : PySem.W.keepIn X.K (.ref fa) = true) (hb : Binds X.K fd ps []) (tk : TakesD X W)
    (hg : Gl X x := by rfl) (hdb : (x == ("__debug__" : Str)) = false := by decide) :
    SE X G W (.Call (.Name x p) [] [] pos) (callE nilA (arg ps.length den)) :=
  pe_imp (pe_call0 F hr hg hm hk hb .nil (passes_call tk fun _ _ _ _ h => h) hdb) fun σ H Q ⟨σd, S, μ, a, h⟩ => sp_arg (vs := []) a.lnk (show RVs G μ S.n H [] [] from rfl) h
/-! ### methods -/
def chkM (c : Nat) (m : Str) (x : D) : M Unit := fun S => match getF c S x with
  | some (_, fs) => if (fs.lookup m).isNone = true then .ok () S else .stk
  | none => .stk
def methE (c : Nat) (m : Str) (fo : En → M D) (fr : En → M (List D)) (g : List D → M D) : En → M D := fun σ => fo σ >>= fun x => chkM c m x >>= fun _ => fr σ >>= fun xs => g (x :: xs)
theorem chkM_ok {m : Str} {μ : Nat → Addr} {S : Sto} {H : Hp} (L : Lnk G μ S H) {d : D} {v : V} (r : RV G μ S.n H d v) {α : Type} {Q : α → Sto → (Nat → Addr) → Hp → Prop} {kk : M α} (p : Post G μ S H W Q ((chkM c m d >>= fun _ => kk) S)) :
    ∃ a dx fs, v = .ref a ∧ H a = some (.ins (G.cA c) dx fs) ∧ fs.lookup m = none ∧ Post G μ S H W Q (kk S) := by
  have p := Post.bind (k := fun _ => kk) p
  unfold chkM at p
  cases e1 : getF c S d with
  | none => rw [e1] at p; exact p.elim
  | some q =>
    obtain ⟨l, fs⟩ := q
    simp only [e1] at p
    by_cases hc : (fs.lookup m).isNone = true
    · rw [if_pos hc] at p
      obtain ⟨_, _, _, h2, dx, fs', h3, h4⟩ := getF_ok L r e1
      exact ⟨_, dx, fs', h2, h3, rvf_none h4 (by simpa using hc), Post.here (W := W) L p⟩
    · rw [if_neg hc] at p; exact p.elim
variable {m : Str} {apos : Pos}
theorem rd_meth : ∀ σ H Q, rdE G W (methE c m fo fr (arg ps.length den)) σ H Q → tMeth (G.cA c) m (spD G ps.length den) [] W (rdE G W fo) (rdA G W fr) σ H Q := fun σ H Q ⟨σd, S, μ, a, h⟩ => by
  refine rdE_bind (k := fun σ x => chkM c m x >>= fun _ => fr σ >>= fun xs => arg ps.length den (x :: xs)) a h fun d S1 μ1 H1 v s a1 r p => ?_
  obtain ⟨ad, dx, fs, e1, e2, e3, p⟩ := chkM_ok a1.lnk r p
  refine ⟨ad, dx, fs, e1, e2, e3, ?_⟩
  refine rdA_bind (k := fun _ xs => arg ps.length den (d :: xs)) a1 p fun ds S2 μ2 H2 vs s2 a2 rs p => ?_
  rw [List.append_nil]
  exact sp_arg a2.lnk (show RVs G μ2 S2.n H2 (d :: ds) (v :: vs) from ⟨v, vs, rfl, s2.rv a1.lnk r, rs⟩) p
theorem se_meth (c : Nat) (T : Cls X.K (G.cA c)) (hm : Meth X.K (G.cA c) m fa) (F : FnOk X.prog X.w X.K X.mg X.base (L2.CX X.prog X.w) k fa fd ps (spD G ps.length den)) (hr : Room k X.A) (hb : Binds X.K fd ps []) (tk : TakesD X W) (ho : SE X G W o fo) (ha : SA X G W (e :: es) fr) {pl : Sem Bool}
    (he : starEach (e :: es) X.env = (false, eval e X.env) :: starEach es X.env := by rfl) (hpl : (backTo pos (starEach es X.env)).any (·.1) = false := by rfl)
    (ht : eval (.Call (.Attribute o m apos) (e :: es) [] pos) X.env = (do
      let ov ← eval o X.env
      standAt apos.atName
      let (f, first) ← holding [ov] (getMethod ov m pl)
      callWith pos f first (backTo pos (starEach (e :: es) X.env)) (backToKw pos (keywordEach [] X.env))) := by rfl) : SE X G W (.Call (.Attribute o m apos) (e :: es) [] pos) (methE c m fo fr (arg ps.length den)) :=
  pe_imp (pe_meth ho T hm F hr hb .nil (passes_call tk fun _ _ _ _ h => h) ha he hpl ht) rd_meth
theorem se_meth0 (c : Nat) (T : Cls X.K (G.cA c)) (hm : Meth X.K (G.cA c) m fa) (F : FnOk X.prog X.w X.K X.mg X.base (L2.CX X.prog X.w) k fa fd ps (spD G ps.length den)) (hr : Room k X.A) (hb : Binds X.K fd ps []) (tk : TakesD X W) (ho : SE X G W o fo) {pl : Sem Bool}
    (ht : eval (.Call (.Attribute o m apos) [] [] pos) X.env = (do
      let ov ← eval o X.env
      standAt apos.atName
      let (f, first) ← holding [ov] (getMethod ov m pl)
      callWith pos f first (backTo pos (starEach [] X.env)) (backToKw pos (keywordEach [] X.env))) := by rfl) : SE X G W (.Call (.Attribute o m apos) [] [] pos) (methE c m fo nilA (arg ps.length den)) :=
  pe_imp (pe_meth0 ho T hm F hr hb .nil (passes_call tk fun _ _ _ _ h => h) ht) fun σ H Q ⟨σd, S, μ, a, h⟩ => by
    refine rdE_bind (k := fun σ x => chkM c m x >>= fun _ => nilA σ >>= fun xs => arg ps.length den (x :: xs)) a h fun d S1 μ1 H1 v s a1 r p => ?_
    obtain ⟨ad, dx, fs, e1, e2, e3, p⟩ := chkM_ok a1.lnk r p
    exact ⟨ad, dx, fs, e1, e2, e3, sp_arg a1.lnk (show RVs G μ1 S1.n H1 [d] [v] from ⟨v, [], rfl, r, rfl⟩) p⟩
/-! ### classes -/
def makeO (c : Nat) (g : List D → M D) : List D → M D := fun xs S => match g (.ref S.n :: xs) (S.push (.ins c [])) with
  | .ok .non S' => .ok (.ref S.n) S'
  | .ok _ _ => .stk
  | .exc c S' => .exc c S'
  | .stk => .stk
theorem make_ok {μ : Nat → Addr} {S : Sto} {H : Hp} (L : Lnk G μ S H) {xs : List D} {vs : List V} (r : RVs G μ S.n H xs vs) {Q : VK} (p : Post G μ S H W (fun d S' μ' H' => ∀ v, RV G μ' S'.n H' d v → Q v H') (makeO c (arg ps.length den) xs S)) {y dx : Addr} (h1 : H y = none) (h2 : H dx = none) (h3 : dx ≠ y) :
    spD G ps.length den (.ref y :: vs) (upd (upd H dx (.own y)) y (.ins (G.cA c) dx [])) (fun v H2 => v = .non ∧ Q (.ref y) H2) W := by
  have s1 : Stp G μ S H μ S (upd H dx (.own y)) := Stp.new L h2
  have hy : upd H dx (.own y) y = none := by rw [upd_ne (Ne.symm h3)]; exact h1
  have s2 : Stp G μ S (upd H dx (.own y)) (putMu μ S.n y) (S.push (.ins c [])) (upd (upd H dx (.own y)) y (.ins (G.cA c) dx [])) := Stp.own s1.lnk hy ⟨dx, [], upd_same, .nil⟩
  have s12 := s1.trans s2
  unfold makeO at p
  refine sp_arg s12.lnk (show RVs G _ _ _ (.ref S.n :: xs) (.ref y :: vs) from ⟨.ref y, vs, rfl, rv_own, s12.rvs L r⟩) ?_
  cases e : arg ps.length den (.ref S.n :: xs) (S.push (.ins c [])) with
  | stk => rw [e] at p; exact p.elim
  | exc c' S' =>
    rw [e] at p
    exact Post.later (Q := fun d S' μ' H' => ∀ v, RV G μ' S'.n H' d v → (v = .non ∧ Q (.ref y) H')) s12 (show Post G μ S H W _ (Fd.R.exc c' S') from p)
  | ok d S' =>
    rw [e] at p
    cases d with
    | non =>
      intro μ' H' s v rv
      refine ⟨rv, p μ' H' (s12.trans s) _ ⟨Nat.lt_of_lt_of_le (by rw [Sto.push_n]; exact Nat.lt_succ_self _) s.grow.agr.1, ?_⟩⟩
      have z := s.grow.agr.2 S.n (by rw [Sto.push_n]; exact Nat.lt_succ_self _)
      rw [z, putMu_same]
    | _ => exact p.elim
theorem se_make (c : Nat) (Mk' : Mk X.K (G.cA c) fa) (F : FnOk X.prog X.w X.K X.mg X.base (L2.CX X.prog X.w) k fa fd ps (spD G ps.length den)) (hr : Room (k + 1) X.A) (hm : X.mg x = some (.ref (G.cA c))) (hb : Binds X.K fd ps []) (tk : TakesD X W) (ha : SA X G W (e :: es) fr)
    (hg : Gl X x := by rfl) (hdb : (x == ("__debug__" : Str)) = false := by decide) (he : starEach (e :: es) X.env = (false, eval e X.env) :: starEach es X.env := by rfl) (hpl : (backTo pos (starEach es X.env)).any (·.1) = false := by rfl) :
    SE X G W (.Call (.Name x p) (e :: es) [] pos) (callE fr (makeO c (arg ps.length den))) :=
  pe_imp (pe_make Mk' F hr hg hm hb .nil (passes_call tk fun _ _ _ _ h => h) ha hdb he hpl) fun σ H Q ⟨σd, S, μ, a, h⟩ =>
    rdA_bind (k := fun _ ds => makeO c (arg ps.length den) ds) a h fun ds S1 μ1 H1 vs s a1 r p y dx h1 h2 h3 => by
      rw [List.append_nil]
      exact make_ok a1.lnk r p h1 h2 h3
theorem se_make0 (c : Nat) (Mk' : Mk X.K (G.cA c) fa) (F : FnOk X.prog X.w X.K X.mg X.base (L2.CX X.prog X.w) k fa fd ps (spD G ps.length den)) (hr : Room (k + 1) X.A) (hm : X.mg x = some (.ref (G.cA c))) (hb : Binds X.K fd ps []) (tk : TakesD X W)
    (hg : Gl X x := by rfl) (hdb : (x == ("__debug__" : Str)) = false := by decide) :
    SE X G W (.Call (.Name x p) [] [] pos) (callE nilA (makeO c (arg ps.length den))) :=
  pe_imp (pe_make0 Mk' F hr hg hm hb .nil (passes_call tk fun _ _ _ _ h => h) hdb) fun σ H Q ⟨σd, S, μ, a, h⟩ => fun y dx h1 h2 h3 => make_ok a.lnk (show RVs G μ S.n H [] [] from rfl) h h1 h2 h3
/-! ### a def's body -/
def startD (n : Nat) (ds : List D) : En := ds.map some ++ List.replicate (n - ds.length) none
def bodyD (n : Nat) (fb : En → M Fl) : List D → M D := fun ds => fb (startD n ds) >>= fun (fl : Fl) => match fl with
  | .nx _ => M.pure .non
  | .rt d => M.pure d
  | _ => M.stk
theorem ren_start {μ : Nat → Addr} {n : Nat} {H : Hp} {N : List Str} {ds : List D} {vs : List V} (r : RVs G μ n H ds vs) : REn G μ n H (startD N.length ds) (L2.start N vs) := by
  unfold startD L2.start
  rw [r.length]
  refine ⟨by rw [List.length_append, List.length_append, List.length_map, List.length_map, r.length, List.length_replicate, List.length_replicate]; exact Nat.le_refl _, fun i d e => ?_⟩
  by_cases hi : i < ds.length
  · rw [List.getElem?_append_left (by simpa using hi), List.getElem?_map] at e
    cases e1 : ds[i]? with
    | none => rw [e1] at e; cases e
    | some d' =>
      rw [e1] at e
      cases e
      obtain ⟨v, h1, h2⟩ := rvs_get r e1
      refine ⟨v, ?_, h2⟩
      rw [List.getElem?_append_left (by rw [List.length_map, ← r.length]; exact hi), List.getElem?_map, h1]
      rfl
  · rw [List.getElem?_append_right (by simpa using hi), List.getElem?_replicate] at e
    split at e <;> cases e
/-- THE RULE of a def: by its body -/
theorem fnD_ok {P : Program} {w : World} {mg : Str → Option Value} {base : Heap} {x qual : Str} {st : Stmt} {f : Addr} {fd : FuncData} {N ps : List Str} {k : Nat} {fb : En → M Fl} (F : Fun G.K x qual st f fd) (S : FnScope N ps (defScope st))
    (hbody : ∀ (cdv : Value) (A : Around) (outer : List Env) (s : Shared) (H : Hp) (E : XK), Room k (A.deeper (envOfC qual (defScope st) s.heap.objs.size f cdv)) → TakesD (cxOf (L2.CX P w) P w G.K mg base N qual (defScope st) f cdv A outer s H E) E →
      SSs (cxOf (L2.CX P w) P w G.K mg base N qual (defScope st) f cdv A outer s H E) G E (defBody st) fb) : FnD P w mg base G (k + 1) f fd ps (bodyD N.length fb) := by
  refine F.okX S (fun vs H Q E ⟨ds, S, μ, h1, h2, _⟩ => h2.length.symm.trans h1) fun cdv A outer s H vs Q E hr ⟨ds, S', μ, h1, r, L, p⟩ => ?_
  have tk : TakesD (cxOf (L2.CX P w) P w G.K mg base N qual (defScope st) f cdv A outer s H E) E := takes_of rfl rfl rfl rfl
  refine ⟨_, hbody cdv A outer s H E hr tk, startD N.length ds, S', μ, ⟨ren_start r, L⟩, ?_⟩
  refine (Post.bind (k := fun (fl : Fl) => match fl with
    | .nx _ => M.pure .non
    | .rt d => M.pure d
    | _ => M.stk) p).mono fun fl S1 μ1 H1 s1 q => ?_
  cases fl with
  | nx σd => exact fun σ en => (Post.here (W := E) s1.lnk q) _ rfl
  | rt d => exact fun v rv => (Post.here (W := E) s1.lnk q) v rv
  | bk σd => exact q.elim
  | ct σd => exact q.elim
end
end Fd

set_option Elab.async false
set_option linter.all false
set_option maxRecDepth 100000
set_option maxHeartbeats 1000000
namespace Fd
open PySem PySem.Spec PyProof.Rows L2
section
variable {X : Cx} {G : Gx} {W : XK} {e o i : Expr} {fe fo fi : En → M D} {pos pos' tpos : Pos}
/-! ### raise -/
theorem ss_raise (c : Nat) {x m : Str} {j : Nat} {p p2 : Pos} {bmB : List Value} {B newId initId : String} (hc : X.calm = true) (tk : TakesD X W) (F : ExcBaseFacts B newId initId bmB) (q : PySem.W.excIn X.K (G.cA c) bmB newId = true) (gC : X.mg x = some (.ref (G.cA c))) (kC : PySem.W.keepIn X.K (.ref (G.cA c)) = true) (r : Raises X (.ref (G.cA c))) (hg : Gl X x := by rfl)
    (hdb : (x == ("__debug__" : Str)) = false := by decide) : SS X G W (.Raise (some (.Call (.Name x p) [.Constant (.str m) j p2] [] pos)) none pos') (fun _ => M.exc c) :=
  ps_imp (L2.ps_raise hc tk (L2.pmk_own F q gC kC r hg hdb)) fun Dn σ H ⟨σd, S, μ, a, h⟩ => h μ H (.refl a.lnk)
/-! ### o[i] = v -/
def setO (o i v : D) : M Unit := fun S => match o with
  | .ref l => if S.locked l = true then .stk else match S.objs[l]? with
    | some (.lst ds) => (match i with
      | .int k => (match ixN ds.length k with
        | some j => .ok () (S.put l (.lst (ds.set j v)))
        | none => .stk)
      | _ => .stk)
    | some (.dct t kvs) => (match keyD t i with
      | some k => if kvs.length < sizeLine then .ok () (S.put l (.dct t (put kvs k v))) else .stk
      | none => .stk)
    | _ => .stk
  | _ => .stk
theorem RVs.set {μ : Nat → Addr} {n : Nat} {H : Hp} {d : D} {v : V} (rd : RV G μ n H d v) : ∀ {ds : List D} {vs : List V} (j : Nat), RVs G μ n H ds vs → RVs G μ n H (ds.set j d) (vs.set j v)
  | [], _, _, h => by
    have h : _ = _ := h
    subst h; exact rfl
  | x :: xs, _, 0, ⟨w, r, e, h1, h2⟩ => by subst e; exact ⟨v, r, rfl, rd, h2⟩
  | x :: xs, _, j + 1, ⟨w, r, e, h1, h2⟩ => by subst e; exact ⟨w, _, rfl, h1, RVs.set rd j h2⟩
theorem any_map {κ : Type} [DecidableEq κ] {f : κ → DK} (inj : ∀ a b, f a = f b → a = b) (l : List (κ × V)) (k : κ) : ((l.map fun p => (f p.1, p.2)).any fun p => decide (p.1 = f k)) = l.any fun p => decide (p.1 = k) := by
  induction l with
  | nil => rfl
  | cons p l ih =>
    rw [List.map_cons, List.any_cons, List.any_cons, ih]
    have : decide (f p.1 = f k) = decide (p.1 = k) := decide_eq_decide.mpr ⟨inj _ _, fun e => by rw [e]⟩
    rw [show decide ((f p.1, p.2).1 = f k) = decide (p.1 = k) from this]
theorem rvk_any {μ : Nat → Addr} {n : Nat} {H : Hp} (k : DK) {kvs : List (DK × D)} {vs : List (DK × V)} (r : RVk G μ n H kvs vs) : (kvs.any fun p => decide (p.1 = k)) = vs.any fun p => decide (p.1 = k) := by
  have q := r.paired
  clear r
  induction q with
  | nil => rfl
  | cons h t ih => rw [List.any_cons, List.any_cons, ih, h.1]
theorem paired_append {α β : Type} {F : α → β → Prop} : ∀ {a : List α} {b : List β} {c : List α} {d : List β}, Paired F a b → Paired F c d → Paired F (a ++ c) (b ++ d)
  | _, _, _, _, .nil, h => h
  | _, _, _, _, .cons h t, h' => .cons h (paired_append t h')
theorem paired_map2 {α β α' β' : Type} {F : α → β → Prop} {F' : α' → β' → Prop} {f : α → α'} {g : β → β'} (h : ∀ a b, F a b → F' (f a) (g b)) : ∀ {a : List α} {b : List β}, Paired F a b → Paired F' (a.map f) (b.map g)
  | _, _, .nil => .nil
  | _, _, .cons q t => .cons (h _ _ q) (paired_map2 h t)
theorem rvk_put {μ : Nat → Addr} {n : Nat} {H : Hp} {κ : Type} [DecidableEq κ] {f : κ → DK} (inj : ∀ a b, f a = f b → a = b) {kvs : List (DK × D)} {l : List (κ × V)} {k : κ} {d : D} {v : V} (r : RVk G μ n H kvs (l.map fun p => (f p.1, p.2))) (rd : RV G μ n H d v) :
    RVk G μ n H (put kvs (f k) d) ((putK l k v).map fun p => (f p.1, p.2)) := by
  unfold put putK
  rw [rvk_any (f k) r, any_map inj]
  by_cases h : (l.any fun p => decide (p.1 = k)) = true
  · rw [if_pos h, if_pos h, List.map_map]
    have q := r.paired
    have e : (l.map ((fun p : κ × V => (f p.1, p.2)) ∘ fun kv => if kv.1 = k then (kv.1, v) else kv)) = (l.map fun p => (f p.1, p.2)).map fun p => if p.1 = f k then (p.1, v) else p := by
      rw [List.map_map]
      refine List.map_congr_left fun p _ => ?_
      show (f (if p.1 = k then (p.1, v) else p).1, (if p.1 = k then (p.1, v) else p).2) = if f p.1 = f k then (f p.1, v) else (f p.1, p.2)
      by_cases hk : p.1 = k
      · rw [if_pos hk, if_pos (by rw [hk])]
      · rw [if_neg hk, if_neg fun z => hk (inj _ _ z)]
    rw [e]
    refine .of (paired_map2 (fun a b z => ?_) q)
    have z1 : a.1 = b.1 := z.1
    by_cases hk : a.1 = f k
    · rw [if_pos hk, if_pos (by rw [← z1]; exact hk)]
      exact ⟨z1, rd⟩
    · rw [if_neg hk, if_neg (by rw [← z1]; exact hk)]
      exact z
  · rw [if_neg h, if_neg h, List.map_append]
    exact .of (paired_append r.paired (.cons ⟨rfl, rd⟩ .nil))
theorem rvk_mono {μ μ' : Nat → Addr} {n n' : Nat} {H H' : Hp} (m : ∀ d v, RV G μ n H d v → RV G μ' n' H' d v) {kvs : List (DK × D)} {vs : List (DK × V)} (r : RVk G μ n H kvs vs) : RVk G μ' n' H' kvs vs := .of (Paired.mapP r.paired fun p q z => ⟨z.1, m _ _ z.2⟩)
def rSet2 : TSet := fun o i v H Q => rSetL o i v H Q ∨ rSetD o i v H Q
theorem set_2 (hu : X.A.units + 1 < cLine) : PSet X rSet2 := fun pins s σ H o i v ov iv u Q I ro ri rv h => h.elim (set_list pins s σ H o i v ov iv u Q I ro ri rv) (set_dict hu pins s σ H o i v ov iv u Q I ro ri rv)
theorem setO_ok {μ : Nat → Addr} {S : Sto} {H : Hp} (L : Lnk G μ S H) {α : Type} {Q : α → Sto → (Nat → Addr) → Hp → Prop} {kk : M α} {o i v : D} {ov iv u : V} (ro : RV G μ S.n H o ov) (ri : RV G μ S.n H i iv) (rv : RV G μ S.n H v u) (p : Post G μ S H W Q ((setO o i v >>= fun _ => kk) S)) {R : Hp → Prop}
    (hR : ∀ S' H', Stp G μ S H μ S' H' → Post G μ S' H' W Q (kk S') → R H') : rSet2 ov iv u H R := by
  have p := Post.bind (k := fun _ => kk) p
  cases o with
  | ref l =>
    obtain ⟨hl, rfl⟩ := ro
    unfold setO at p
    by_cases hk : S.locked l = true
    · simp only [hk, if_true] at p; exact p.elim
    · have hk' : S.locked l = false := by simpa using hk
      simp only [hk, if_false] at p
      cases eo : S.objs[l]? with
      | none => simp only [eo] at p; exact p.elim
      | some ob =>
        have lo := L.ob l ob eo
        cases ob with
        | ins c fs => simp only [eo] at p; exact p.elim
        | lst ds =>
          simp only [eo] at p
          cases i with
          | int k =>
            have ri : iv = .int k := ri
            subst ri
            cases ej : ixN ds.length k with
            | none => simp only [ej] at p; exact p.elim
            | some j =>
              simp only [ej] at p
              obtain ⟨vs, h1, h2⟩ := lo
              rw [hk'] at h1
              have h1 : H (μ l) = some (.lst vs) := h1
              have g := grow_put (u := .lst (vs.set j u)) L hl h1 (fun _ _ e => by cases e) (fun _ e => by cases e)
              have st : Stp G μ S H μ (S.put l (.lst (ds.set j v))) (upd H (μ l) (.lst (vs.set j u))) := Stp.put L hl hk' h1 (fun _ _ e => by cases e) (fun _ e => by cases e) (fun _ e => by cases e) (fun _ e => by cases e) ⟨_, upd_same, (RVs.set rv j h2).mono g L.tf⟩
              exact .inl ⟨μ l, vs, k, j, rfl, rfl, h1, by rw [← h2.length]; exact ej, hR _ _ st (Post.step st p)⟩
          | _ => exact p.elim
        | dct t kvs =>
          simp only [eo] at p
          cases ek : keyD t i with
          | none => simp only [ek] at p; exact p.elim
          | some k =>
            simp only [ek] at p
            by_cases hz : kvs.length < sizeLine
            · rw [if_pos hz] at p
              have ka := keyD_ok ri ek
              obtain ⟨vs, ho, h1, h2, h3⟩ := lo
              rw [hk'] at h1
              have h1 : H (μ l) = some ho := h1
              cases ka with
              | k x =>
                cases h2 with
                | k ls =>
                  have g := grow_put (u := .dK (putK ls x u)) L hl h1 (fun _ _ e => by cases e) (fun _ e => by cases e)
                  have st : Stp G μ S H μ (S.put l (.dct false (put kvs (.k x) v))) (upd H (μ l) (.dK (putK ls x u))) := Stp.put L hl hk' h1 (fun _ _ e => by cases e) (fun _ e => by cases e) (fun _ e => by cases e) (fun _ e => by cases e)
                    ⟨_, _, upd_same, .k _, RVk.mono g L.tf _ _ (rvk_put (fun _ _ => dk_inj) h3 rv)⟩
                  exact .inr ⟨μ l, _, rfl, DPut.k h1 (by have := h3.length; rw [List.length_map] at this; omega), hR _ _ st (Post.step st p)⟩
              | t xs hb =>
                cases h2 with
                | t ls =>
                  have g := grow_put (u := .dT (putK ls xs u)) L hl h1 (fun _ _ e => by cases e) (fun _ e => by cases e)
                  have st : Stp G μ S H μ (S.put l (.dct true (put kvs (.t xs) v))) (upd H (μ l) (.dT (putK ls xs u))) := Stp.put L hl hk' h1 (fun _ _ e => by cases e) (fun _ e => by cases e) (fun _ e => by cases e) (fun _ e => by cases e)
                    ⟨_, _, upd_same, .t _, RVk.mono g L.tf _ _ (rvk_put (fun _ _ => dt_inj) h3 rv)⟩
                  exact .inr ⟨μ l, _, rfl, DPut.t h1 hb (by have := h3.length; rw [List.length_map] at this; omega), hR _ _ st (Post.step st p)⟩
            · rw [if_neg hz] at p; exact p.elim
  | _ => exact p.elim
def subG (fo fi : En → M D) : D → En → M En := fun d σ => fo σ >>= fun o => fi σ >>= fun i => setO o i d >>= fun _ => M.pure σ
theorem sg_sub (hu : X.A.units + 1 < cLine) (ho : SE X G W o fo) (hi : SE X G W i fi)
    (ha : ∀ v, assign (.Subscript o i pos) X.env v = (do
      let ov ← holding [v] (eval o X.env)
      let iv ← holding [v, ov] (eval i X.env)
      standAt pos
      holding [v, ov, iv] (setItem ov iv v)
      release [v, ov, iv] []) := by intro _; rfl) : SG X G W (.Subscript o i pos) (subG fo fi) :=
  pg_imp (pg_sub ho hi (set_2 hu) ha) fun v σ H Q ⟨d, σd, S, μ, a, r, h⟩ => by
    refine rdE_bind (k := fun σ x => fi σ >>= fun i => setO x i d >>= fun _ => M.pure σ) a h fun x S1 μ1 H1 xv s a1 rx p => ?_
    refine rdE_bind (k := fun σ i => setO x i d >>= fun _ => M.pure σ) a1 p fun y S2 μ2 H2 yv s2 a2 ry p => ?_
    refine setO_ok a2.lnk (s2.rv a1.lnk rx) ry (s2.rv a1.lnk (s.rv a.lnk r)) p fun S3 H3 st p => ?_
    exact (Post.here (W := W) (a2.step st).lnk p) σ (a2.step st).en
/-- o[i] op= e, o a dict -/
theorem get_dict (hu : X.A.units + 1 < cLine) : PGet X (fun o i H Q => ∃ a v, o = .ref a ∧ DGet H a i (some v) ∧ Q v H) := by
  intro pins s σ H o i ov iv Q I ro ri h
  obtain ⟨a, v, eo, g, q⟩ := h
  subst eo
  cases (show ov = Value.ref a from ro)
  exact d_getItem hu I g ri fun w' s3 I3 rw' => ⟨v, H, I3, rw', q⟩
def augSubS (op : D → D → M D) (fo fi fe : En → M D) : En → M Fl := fun σ => fo σ >>= fun o => fi σ >>= fun i => dgetO o i >>= fun x => fe σ >>= fun y => op x y >>= fun z => setO o i z >>= fun _ => M.pure (Fl.nx σ)
theorem dgetO_ok {μ : Nat → Addr} {S : Sto} {H : Hp} (L : Lnk G μ S H) {α : Type} {Q : α → Sto → (Nat → Addr) → Hp → Prop} {kk : D → M α} {d e : D} {x y : V} (r1 : RV G μ S.n H d x) (r2 : RV G μ S.n H e y) (p : Post G μ S H W Q ((dgetO d e >>= kk) S)) :
    ∃ a v dv, x = .ref a ∧ DGet H a y (some v) ∧ RV G μ S.n H dv v ∧ Post G μ S H W Q (kk dv S) := by
  have p := Post.bind p
  unfold dgetO at p
  cases e1 : dctD S d with
  | none => rw [e1] at p; exact p.elim
  | some q =>
    obtain ⟨t, kvs⟩ := q
    rw [e1] at p
    cases e2 : keyD t e with
    | none => simp only [e2] at p; exact p.elim
    | some k =>
      obtain ⟨aa, o, h1, h2, h3⟩ := dget_ok L r1 e1 (keyD_ok r2 e2)
      cases e3 : val kvs k with
      | none => simp only [e2, Option.bind_some, e3] at p; exact p.elim
      | some dv =>
        simp only [e2, Option.bind_some, e3] at p
        rw [e3] at h3
        cases o with
        | none => exact h3.elim
        | some v => exact ⟨aa, v, dv, h1, h2, h3, Post.here L p⟩
theorem ss_augSub {opr : Operator} {op : D → D → M D} (hu : X.A.units + 1 < cLine) (hop : OpD X G W (inplaceOp opr) op) (ho : SE X G W o fo) (hi : SE X G W i fi) (he : SE X G W e fe)
    (ha : ∀ ov iv new, augStore i ov iv new = (do holding [new, ov, iv] (setItem ov iv new); release [new, ov, iv] []; pure .next) := by intros; rfl) : SS X G W (.AugAssign (.Subscript o i tpos) opr e pos) (augSubS op fo fi fe) :=
  ps_imp (ps_augS ho hi (get_dict hu) he (show PIp X opr (rd2 G W op) from fun pins s σ H x y v u Q I rx ry q => hop pins s σ H x y v u Q I rx ry q) (set_2 hu) ha) fun Dn σ H ⟨σd, S, μ, a, h⟩ => by
    refine rdE_bind (k := fun σ o => fi σ >>= fun i => dgetO o i >>= fun x => fe σ >>= fun y => op x y >>= fun z => setO o i z >>= fun _ => M.pure (Fl.nx σ)) a h fun od S1 μ1 H1 ov s1 a1 ro p => ?_
    refine rdE_bind (k := fun σ i => dgetO od i >>= fun x => fe σ >>= fun y => op x y >>= fun z => setO od i z >>= fun _ => M.pure (Fl.nx σ)) a1 p fun idd S2 μ2 H2 iv s2 a2 ri p => ?_
    obtain ⟨aa, v, dv, e1, g, rdv, p⟩ := dgetO_ok a2.lnk (s2.rv a1.lnk ro) ri p
    refine ⟨aa, v, e1, g, ?_⟩
    refine rdE_bind (k := fun σ y => op dv y >>= fun z => setO od idd z >>= fun _ => M.pure (Fl.nx σ)) a2 p fun y S3 μ3 H3 vy s3 a3 ry p => ?_
    refine ⟨dv, y, S3, μ3, a3.lnk, s3.rv a2.lnk rdv, ry, (Post.bind (k := fun z => setO od idd z >>= fun _ => M.pure (Fl.nx σd)) p).mono fun z S4 μ4 H4 s4 p w rz => ?_⟩
    have a4 := a3.step s4
    have s34 := s3.trans s4
    refine setO_ok a4.lnk (s34.rv a2.lnk (s2.rv a1.lnk ro)) (s34.rv a2.lnk ri) rz p fun S5 H5 st p => ?_
    exact (Post.here (W := W) (a4.step st).lnk p) σ (a4.step st).en
/-- name op= e -/
def augS (i : Nat) (op : D → D → M D) (fe : En → M D) : En → M Fl := fun σ => getV i σ >>= fun x => fe σ >>= fun y => op x y >>= fun z => M.pure (Fl.nx (σ.set i (some z)))
theorem ss_aug (i : Nat) {opr : Operator} {op : D → D → M D} {x : Str} {pos' : Pos} (hN : X.N.Nodup) (hop : OpD X G W (inplaceOp opr) op) (he : SE X G W e fe) (hi : X.N[i]? = some x := by rfl) (hx : Loc X.env.scope x := by first | exact Or.inl rfl | exact Or.inr rfl) (hf : X.fn x = true ∨ X.env.scope.names.lookup x = some .local := by first | exact .inl rfl | exact .inr rfl | assumption) :
    SS X G W (.AugAssign (.Name x pos') opr e pos) (augS i op fe) :=
  ps_imp (ps_aug hN hi hx he (show PIp X opr (rd2 G W op) from fun pins s σ H x y v u Q I rx ry q => hop pins s σ H x y v u Q I rx ry q) hf) fun Dn σ H ⟨σd, S, μ, a, h⟩ => by
    have p := Post.bind (k := fun x => fe σd >>= fun y => op x y >>= fun z => M.pure (Fl.nx (σd.set i (some z)))) h
    unfold getV at p
    cases e1 : σd[i]? with
    | none => rw [e1] at p; exact p.elim
    | some od =>
      rw [e1] at p
      cases od with
      | none => exact p.elim
      | some d =>
        have p := Post.here (W := W) a.lnk p
        obtain ⟨v, h1, rv⟩ := a.en.at_ i d e1
        refine ⟨v, h1, ?_⟩
        refine rdE_bind (k := fun σ y => op d y >>= fun z => M.pure (Fl.nx (σ.set i (some z)))) a p fun y S1 μ1 H1 vy s1 a1 ry p => ?_
        refine ⟨d, y, S1, μ1, a1.lnk, s1.rv a.lnk rv, ry, (Post.bind (k := fun z => M.pure (Fl.nx (σd.set i (some z)))) p).mono fun z S2 μ2 H2 s2 p w rz => ?_⟩
        exact (Post.here (W := W) s2.lnk p) _ ((a1.step s2).en.set rz)
/-- xs += ys: lists; xs is of the store, ys any -/
def extL : D → D → M D := fun x y S => match x with
  | .ref l => if S.locked l = true then .stk else match S.objs[l]? with
    | some (.lst xs) => (match seqU S y with
      | some ys => if xs.length + ys.length ≤ sizeLine then .ok (.ref l) (S.put l (.lst (xs ++ ys))) else .stk
      | none => .stk)
    | _ => .stk
  | _ => .stk
theorem od_extL : OpD X G W (inplaceOp .Add) extL := opR_imp iop_ext fun x y H Q ⟨d, e, S, μ, L, r1, r2, p⟩ => by
  unfold extL at p
  cases d with
  | ref l =>
    obtain ⟨hl, rfl⟩ := r1
    by_cases hk : S.locked l = true
    · simp only [hk, if_true] at p; exact p.elim
    · have hk' : S.locked l = false := by simpa using hk
      simp only [hk, if_false] at p
      cases eo : S.objs[l]? with
      | none => simp only [eo] at p; exact p.elim
      | some ob =>
        have lo := L.ob l ob eo
        cases ob with
        | ins c fs => simp only [eo] at p; exact p.elim
        | dct c fs => simp only [eo] at p; exact p.elim
        | lst xs =>
          simp only [eo] at p
          cases e2 : seqU S e with
          | none => simp only [e2] at p; exact p.elim
          | some ys =>
            simp only [e2] at p
            by_cases hz : xs.length + ys.length ≤ sizeLine
            · rw [if_pos hz] at p
              obtain ⟨vs, h1, h2⟩ := lo
              rw [hk'] at h1
              have h1 : H (μ l) = some (.lst vs) := h1
              obtain ⟨b, us, rfl, h3, h4⟩ := seqU_ok L r2 e2
              have g := grow_put (u := .lst (vs ++ us)) L hl h1 (fun _ _ e => by cases e) (fun _ e => by cases e)
              have st : Stp G μ S H μ (S.put l (.lst (xs ++ ys))) (upd H (μ l) (.lst (vs ++ us))) := Stp.put L hl hk' h1 (fun _ _ e => by cases e) (fun _ e => by cases e) (fun _ e => by cases e) (fun _ e => by cases e) ⟨_, upd_same, (h2.append h4).mono g L.tf⟩
              exact ⟨μ l, b, vs, us, rfl, rfl, h1, h3, by rw [← h2.length, ← h4.length]; exact hz, Post.step st p _ ⟨by rw [Sto.put_n]; exact hl, rfl⟩⟩
            · rw [if_neg hz] at p; exact p.elim
  | _ => exact p.elim
/-! ### a, b = x, y with plain local names -/
def parS (i j : Nat) (fr : En → M (List D)) : En → M Fl := fun σ => fr σ >>= fun ds => match ds with
  | [a, b] => M.pure (Fl.nx ((σ.set i (some a)).set j (some b)))
  | _ => M.stk
theorem ss_par (i j : Nat) {x y : Str} {a b : Expr} {fr : En → M (List D)} {px py pt : Pos} {kt k2 pt2} (hc : X.calm = true) (hN : X.N.Nodup) (ha : SA X G W [a, b] fr) (hi : X.N[i]? = some x := by rfl) (hj : X.N[j]? = some y := by rfl) (hij : i ≠ j := by decide)
    (hx : X.env.scope.names.lookup x = some .local := by rfl) (hy : X.env.scope.names.lookup y = some .local := by rfl)
    (hw : swappedStores [.Tuple [.Name x px, .Name y py] kt pt] (.Tuple [a, b] k2 pt2) X.env = pure (some [x, y]) := by rfl)
    (hs : swapsWithSole [.Tuple [.Name x px, .Name y py] kt pt] (.Tuple [a, b] k2 pt2) pos.line X.env = pure false := by rfl) :
    SS X G W (.Assign [.Tuple [.Name x px, .Name y py] kt pt] (.Tuple [a, b] k2 pt2) pos) (parS i j fr) :=
  ps_imp (ps_par hc hN hi hj hij hx hy ha hw hs) fun Dn σ H ⟨σd, S, μ, a, h⟩ => by
    refine rdA_bind (k := fun σ ds => match ds with | [a, b] => M.pure (Fl.nx ((σ.set i (some a)).set j (some b))) | _ => M.stk) a h fun ds S1 μ1 H1 vs s a1 r p => ?_
    match ds, r, p with
    | [d1, d2], ⟨v1, r1, e1, q1, v2, r2, e2, q2, e3⟩, p =>
      subst e1 e2
      have e3 : r2 = [] := e3
      subst e3
      exact ⟨v1, v2, rfl, (Post.here (W := W) a1.lnk p) _ ((a1.en.set q1).set q2)⟩
    | [], _, p => exact p.elim
    | [_], _, p => exact p.elim
    | _ :: _ :: _ :: _, _, p => exact p.elim
def par3S (i j l : Nat) (fr : En → M (List D)) : En → M Fl := fun σ => fr σ >>= fun ds => match ds with
  | [a, b, c] => M.pure (Fl.nx (((σ.set i (some a)).set j (some b)).set l (some c)))
  | _ => M.stk
theorem ss_par3 (i j l : Nat) {x y z : Str} {a b c : Expr} {fr : En → M (List D)} {px py pz pt : Pos} {kt k2 pt2} (hc : X.calm = true) (hN : X.N.Nodup) (ha : SA X G W [a, b, c] fr) (hi : X.N[i]? = some x := by rfl) (hj : X.N[j]? = some y := by rfl) (hl : X.N[l]? = some z := by rfl) (hij : i ≠ j := by decide) (hil : i ≠ l := by decide) (hjl : j ≠ l := by decide)
    (hx : X.env.scope.names.lookup x = some .local := by rfl) (hy : X.env.scope.names.lookup y = some .local := by rfl) (hz : X.env.scope.names.lookup z = some .local := by rfl)
    (hw : swappedStores [.Tuple [.Name x px, .Name y py, .Name z pz] kt pt] (.Tuple [a, b, c] k2 pt2) X.env = pure (some [x, y, z]) := by rfl)
    (hs : swapsWithSole [.Tuple [.Name x px, .Name y py, .Name z pz] kt pt] (.Tuple [a, b, c] k2 pt2) pos.line X.env = pure false := by rfl) :
    SS X G W (.Assign [.Tuple [.Name x px, .Name y py, .Name z pz] kt pt] (.Tuple [a, b, c] k2 pt2) pos) (par3S i j l fr) :=
  ps_imp (ps_par3 hc hN hi hj hl hij hil hjl hx hy hz ha hw hs) fun Dn σ H ⟨σd, S, μ, a, h⟩ => by
    refine rdA_bind (k := fun σ ds => match ds with | [a, b, c] => M.pure (Fl.nx (((σ.set i (some a)).set j (some b)).set l (some c))) | _ => M.stk) a h fun ds S1 μ1 H1 vs s a1 r p => ?_
    match ds, r, p with
    | [d1, d2, d3], ⟨v1, r1, e1, q1, v2, r2, e2, q2, v3, r3, e3, q3, e4⟩, p =>
      subst e1 e2 e3
      have e4 : r3 = [] := e4
      subst e4
      exact ⟨v1, v2, v3, rfl, (Post.here (W := W) a1.lnk p) _ (((a1.en.set q1).set q2).set q3)⟩
    | [], _, p => exact p.elim
    | [_], _, p => exact p.elim
    | [_, _], _, p => exact p.elim
    | _ :: _ :: _ :: _ :: _, _, p => exact p.elim
end
end Fd

set_option Elab.async false
set_option linter.all false
set_option maxRecDepth 100000
set_option maxHeartbeats 1000000
namespace Fd
open PySem PySem.Spec PyProof.Rows L2 GenW
/-! ### generator expressions: the frame, as it runs and sleeps -/
def AG (B : Around) (env : Env) : Around := ⟨B.handled, B.depth + 1, pushEnvs [env] B.frames, B.guards, B.units + 3⟩
abbrev gcx (X : Cx) (B : Around) (s : Shared) (H : Hp) (env : Env) (fp : List Addr) : Cx := { X with A := AG B env, s_0 := s, H_0 := H, env := env, outer := X.stack, stack := env :: X.stack, ex := fp, fn := fun _ => false, pn := [], xe := fun _ _ => False }
theorem over_gl {B : Around} {e : Expr} {cl : List Comprehension} {sc : Scope} {p : Pos} {it acc : Value} {env : Env} : B.over (.compLoop (.GeneratorExp e cl sc p) 0 it acc env) [] = AG B env := by
  obtain ⟨hd, d, fr, gs, u⟩ := B
  simp [Around.over, AG, marksOver, frameCount, unitsOf, envsOf, guardsOf, pushEnvs, pushGuards, Code.envs, Code.env?, Code.isFrame, Code.guards, Code.isGuard, Code.weight, Code.frames, Code.isCreation, Code.isCaller, Code.cUnits]
theorem over_gs {B : Around} {e : Expr} {cl : List Comprehension} {sc : Scope} {p : Pos} {it acc : Value} {env : Env} : B.over (.compStart (.GeneratorExp e cl sc p) 0 it acc env) [] = AG B env := by
  obtain ⟨hd, d, fr, gs, u⟩ := B
  simp [Around.over, AG, marksOver, frameCount, unitsOf, envsOf, guardsOf, pushEnvs, pushGuards, Code.envs, Code.env?, Code.isFrame, Code.guards, Code.isGuard, Code.weight, Code.frames, Code.isCreation, Code.isCaller, Code.cUnits]

/-- the generator's state: ws: objects that others hold, the generator's own object among them -/
structure GSt (Y : Cx) (fp ws : List Addr) (σ0 : L2.St) (H : Hp) (s : Shared) : Prop where
  inv : Inv Y [] σ0 H s
  fpn : ∀ b ∈ fp, H b = none
  wsn : ∀ b ∈ ws, H b = none ∧ (b ∈ Y.ex ∨ Y.s_0.heap.objs.size ≤ b) ∧ b ≠ Y.env.locals ∧ b ∉ fp ∧ ∃ o, s.heap.get? b = some o ∧ ∀ v, o.data ≠ .cell v
section
variable {Y : Cx} {fp ws : List Addr} {σ0 : L2.St} {H : Hp} {s : Shared}
theorem GSt.ncell (g : GSt Y fp ws σ0 H s) {b : Addr} (hb : b ∈ ws) : ∀ x c, Y.env.cells.lookup x = some c → c ≠ b := fun x c e z => by
  obtain ⟨v, o, ho, hd⟩ := g.inv.cell x c e
  obtain ⟨_, _, _, _, o', ho', hd'⟩ := g.wsn b hb
  rw [z, ho'] at ho
  cases ho
  exact hd' v hd
theorem GSt.nfs (g : GSt Y fp ws σ0 H s) {b : Addr} (hb : b ∈ ws) : b ∉ Y.fs := fun hf => by
  obtain ⟨_, o, ho, _⟩ := g.inv.ok.funs.mem hf
  rcases (g.wsn b hb).2.1 with z | z
  · exact g.inv.ok.exfs b z hf
  · exact absurd (Nat.lt_of_lt_of_le (Heap.lt_size ho) z) (Nat.lt_irrefl _)
theorem GSt.fpw (g : GSt Y fp ws σ0 H s) (hpn : Y.pn = []) : ∀ b ∈ ws, FpOk Y [] H b := fun b hb =>
  let ⟨h1, h2, h3, h4, _⟩ := g.wsn b hb
  ⟨h1, h3, g.nfs hb, h2, g.ncell hb, fun p hp => by rw [hpn] at hp; exact absurd hp (by simp)⟩
theorem GSt.fpf (g : GSt Y fp ws σ0 H s) (hpn : Y.pn = []) (hex : ∀ b ∈ fp, b ∈ Y.ex) {h : Heap} : ∀ b ∈ fp, FpOk Y (pinsAt ws h) H b := fun b hb =>
  ⟨g.fpn b hb, (g.inv.ok.exf b (hex b hb)).1, g.inv.ok.exfs b (hex b hb), .inl (hex b hb), (fun x c e => (g.inv.ok.exf b (hex b hb)).2 x c e), fun p hp z => by
    rw [hpn] at hp
    have hp : p ∈ pinsAt ws h := by simpa using hp
    obtain ⟨hw, _⟩ := of_pinsAt hp
    exact (g.wsn p.1 hw).2.2.2.1 (by rw [z]; exact hb)⟩
theorem GSt.gens (g : GSt Y fp ws σ0 H s) {g' : Array GenState} (hb : AllBare g') : GSt Y fp ws σ0 H { s with gens := g' } :=
  ⟨⟨g.inv.ok, g.inv.os, hb, g.inv.base, g.inv.loc, g.inv.cell, g.inv.free, g.inv.freeC, g.inv.pin, g.inv.hok, g.inv.len⟩, g.fpn, g.wsn⟩
theorem GSt.kept (g : GSt Y fp ws σ0 H s) {h' : Heap} {t' : Nat} (k : ∀ b o, s.heap.get? b = some o → h'.get? b = some o) : GSt Y fp ws σ0 H { s with heap := h', toks := t' } :=
  ⟨g.inv.kept k, g.fpn, fun b hb => let ⟨h1, h2, h3, h4, o, h5, h6⟩ := g.wsn b hb; ⟨h1, h2, h3, h4, o, k b o h5, h6⟩⟩
/-- the consumer's own object is changed -/
theorem GSt.turn (g : GSt Y fp ws σ0 H s) (hpn : Y.pn = []) {S : Addr} (hS : S ∈ ws) {h' : Heap} {t' : Nat} (k : ∀ b o, b ≠ S → s.heap.get? b = some o → h'.get? b = some o) (hn : ∃ o, h'.get? S = some o ∧ ∀ v, o.data ≠ .cell v) : GSt Y fp ws σ0 H { s with heap := h', toks := t' } := by
  obtain ⟨h1, h2, h3, h4, _⟩ := g.wsn S hS
  refine ⟨g.inv.turned k h1 h3 h2 (g.ncell hS) (fun p hp => by rw [hpn] at hp; exact absurd hp (by simp)), g.fpn, fun b hb => ?_⟩
  obtain ⟨q1, q2, q3, q4, o, q5, q6⟩ := g.wsn b hb
  refine ⟨q1, q2, q3, q4, ?_⟩
  by_cases hbS : b = S
  · rw [hbS]; exact hn
  · exact ⟨o, k b o hbS q5, q6⟩
end

/-! ### the segments -/
abbrev Vw := Addr → Option Obj
section
variable {Y : Cx} {fp ws : List Addr} {σ : L2.St} {vs : List Nat} {B : Around} {tn : Nat → Heap → Prop} {it : Addr} {J : It} {tg elt iter : Expr} {ifs : List Expr} {scope : Scope} {pos : Pos} {g : TG} {tt : TT} {te : TE}
  {St : Vw → Nat → Nat → Hp → Prop} {Gt : Vw → Nat → Nat → V → Hp → Prop} {Fin : Vw → Hp → Prop}
/-- what is seen of the objects at ws -/
def vw (ws : List Addr) (s : Shared) : Addr → Option Obj := fun b => if b ∈ ws then s.heap.get? b else none
/-- what the objects at ws hold is kept while the generator runs -/
def Same (ws : List Addr) (s s' : Shared) : Prop := ∀ b ∈ ws, ∀ o, s.heap.get? b = some o → s'.heap.get? b = some o
def PY (Y : Cx) (fp ws : List Addr) (tn : Nat → Heap → Prop) (σ0 : L2.St) (St : Vw → Nat → Nat → Hp → Prop) (Gt : Vw → Nat → Nat → V → Hp → Prop) : Protocol := fun n s₀ v s kap =>
  ∃ i k H y, k < n ∧ RelV y v ∧ GSt Y fp ws σ0 H s ∧ tn i s.heap ∧ Gt (vw ws s) i k y H ∧ Same ws s₀ s ∧ ∀ s'', (∃ k' H', k' < n ∧ GSt Y fp ws σ0 H' s'' ∧ tn i s''.heap ∧ St (vw ws s'') i k' H') → kap (.send .none) s''
def PR (Y : Cx) (fp ws : List Addr) (σ0 : L2.St) (Fin : Vw → Hp → Prop) (s₀ s : Shared) : Prop := ∃ H, GSt Y fp ws σ0 H s ∧ Fin (vw ws s) H ∧ Same ws s₀ s
theorem vw_same {Y : Cx} {fp ws : List Addr} {σ0 : L2.St} {H : Hp} {s s' : Shared} (G : GSt Y fp ws σ0 H s) (h : Same ws s s') : vw ws s' = vw ws s := by
  funext b
  unfold vw
  by_cases hb : b ∈ ws
  · obtain ⟨_, _, _, _, o, e, _⟩ := G.wsn b hb
    rw [if_pos hb, if_pos hb, e, h b hb o e]
  · rw [if_neg hb, if_neg hb]
def TurnOk (J : It) (σ : L2.St) (vs : List Nat) (g : TG) (tt : TT) (te : TE) (St : Vw → Nat → Nat → Hp → Prop) (Gt : Vw → Nat → Nat → V → Hp → Prop) (Fin : Vw → Hp → Prop) : Prop :=
  ∀ w i k H, St w i k H → (J.stop i H ∧ Fin w H) ∨ (J.go i H ∧ ∃ (Nx : Hp → Prop) (Gx : VK), (∀ H', Nx H' → ∃ k', k' < k ∧ St w (i + 1) k' H') ∧ (∀ y H', Gx y H' → ∃ k', k' < k ∧ Gt w (i + 1) k' y H') ∧
    ∀ x H', J.yld i H x H' → g x (wipe σ vs) H' fun σ2 H2 => wipe σ2 vs = wipe σ vs ∧ tt σ2 H2 fun b H3 => if b = true then te σ2 H3 Gx else Nx H3)
theorem seg_gen (hA : Y.A = AG B Y.env) (hc : Y.calm = true) (hxe : Y.xe = fun _ _ => False) (hpn : Y.pn = []) (hex : ∀ b ∈ fp, b ∈ Y.ex) (hco : Y.env.scope.isCoroutine = false) (T : Turn Y.prog Y.w Y.K tg J fp it tn) (pg : PG Y tg g) (pt : PTs Y ifs tt) (pe : PE Y elt te) (turn : TurnOk J σ vs g tt te St Gt Fin) :
    ∀ (n m k : Nat) (s₀ s : Shared) (i : Nat) (H : Hp), k < m → k < n → GSt Y fp ws (wipe σ vs) H s → tn i s.heap → St (vw ws s) i k H → Same ws s₀ s →
      Seg (model Y.prog Y.w) B (fun n s₀ r s₁ => r = .ok .next ∧ PR Y fp ws (wipe σ vs) Fin s₀ s₁) (PY Y fp ws tn (wipe σ vs) St Gt) n s₀
        (.compLoop (.GeneratorExp elt [⟨tg, iter, ifs, 0⟩] scope pos) 0 (.ref it) .none Y.env)
        ((model Y.prog Y.w).den (.compLoop (.GeneratorExp elt [⟨tg, iter, ifs, 0⟩] scope pos) 0 (.ref it) .none Y.env)) [] s := by
  intro n
  induction n using Nat.strongRecOn with
  | ind n ihn =>
  intro m
  induction m with
  | zero => intro k s₀ s i H hk; exact absurd hk (Nat.not_lt_zero _)
  | succ m ih =>
    intro k s₀ s i H hkm hkn G st q sm
    have I := G.inv
    have wsO : ∀ b ∈ ws, ∃ o, s.heap.get? b = some o ∧ ∀ v, o.data ≠ .cell v := fun b hb => (G.wsn b hb).2.2.2.2
    have Iw : Inv Y ([] ++ pinsAt ws s.heap) (wipe σ vs) H s := I.pinned (G.fpw hpn) wsO
    have Iw : Inv Y (pinsAt ws s.heap) (wipe σ vs) H s := by simpa using Iw
    have back : ∀ {pl : List (Addr × Obj)} {H' : Hp} {s' : Shared}, Inv Y (pinsAt ws s.heap ++ pl) (wipe σ vs) H' s' → (∀ b ∈ fp, H' b = none) → GSt Y fp ws (wipe σ vs) H' s' ∧ Same ws s₀ s' ∧ vw ws s' = vw ws s := fun {pl H' s'} I' hf => by
      have kp : ∀ b ∈ ws, ∀ o, s.heap.get? b = some o → s'.heap.get? b = some o ∧ H' b = none := fun b hb o e =>
        let z := I'.pin (b, o) (List.mem_append_right _ (List.mem_append_left _ (mem_pinsAt hb e)))
        ⟨z.1, z.2.1⟩
      refine ⟨⟨I'.pins_of fun p hp => absurd hp (by simp), hf, fun b hb => ?_⟩, fun b hb o e => (kp b hb o (sm b hb o e)).1, vw_same G fun b hb o e => (kp b hb o e).1⟩
      obtain ⟨_, q2, q3, q4, o, q5, q6⟩ := G.wsn b hb
      obtain ⟨z1, z2⟩ := kp b hb o q5
      exact ⟨z2, q2, q3, q4, o, z1, q6⟩
    show Seg _ B _ _ _ s₀ _ ((compTurn (.GeneratorExp elt [⟨tg, iter, ifs, 0⟩] scope pos) 0 (.ref it) .none Y.env).onRaise (leaving Y.env)) [] s
    rw [compTurn_gen, Sem.onRaise_eq_wrap]
    refine seg_bind_wrap (wpAny_standAt ?_)
    refine seg_bind_wrap ?_
    rw [over_gl, ← hA]
    rcases turn (vw ws s) i k H q with ⟨stop, fin⟩ | ⟨go, Nx, Gx, hNx, hGx, step⟩
    · refine thnF (T.done Y rfl rfl rfl hc i _ s _ H (fun _ _ => False) Iw (G.fpf hpn hex) st stop) fun r s1 ⟨hr, I1⟩ => ?_
      subst hr
      obtain ⟨G1, sm1, ew⟩ := back (pl := []) (by simpa using I1) G.fpn
      exact seg_end (.ok .next) ⟨rfl, H, G1, by rw [ew]; exact fin, sm1⟩
    · refine thnF (T.item Y rfl rfl rfl hc i _ s _ H (fun _ _ => False) Iw (G.fpf hpn hex) st go) fun r s1 ⟨u, hr, h1⟩ => ?_
      subst hr
      refine seg_bind_wrap ?_
      rw [over_gl, ← hA]
      refine thnF h1 fun _ s2 ⟨x, H2, I2, r2, y2, st2, n2⟩ => ?_
      have f2 : ∀ b ∈ fp, FpOk Y (pinsAt ws s.heap) H2 b := fun b hb => ⟨n2 b hb, (G.fpf hpn hex (h := s.heap) b hb).2⟩
      have I2' := I2.pinned f2 (T.obj _ _ st2)
      refine seg_bind_wrap ?_
      rw [over_gl, ← hA]
      have fin9 : ∀ {σ' : L2.St} {s' : Shared} {H' : Hp}, Inv Y (pinsAt ws s.heap ++ pinsAt fp s2.heap) σ' H' s' → wipe σ' vs = wipe σ vs → GSt Y fp ws (wipe σ vs) H' s' ∧ Same ws s₀ s' ∧ tn (i + 1) s'.heap ∧ vw ws s' = vw ws s := fun {σ' s' H'} I' hw => by
        have pin' : ∀ b ∈ fp, ∀ o, s2.heap.get? b = some o → s'.heap.get? b = some o ∧ H' b = none := fun b hb o e =>
          let z := I'.pin (b, o) (List.mem_append_right _ (List.mem_append_right _ (mem_pinsAt hb e)))
          ⟨z.1, z.2.1⟩
        have I3 : Inv Y (pinsAt ws s.heap ++ pinsAt fp s2.heap) (wipe σ vs) H' s' := I'.weak (by rw [← hw, wipe_length]) fun j v e => by
          rw [← hw] at e
          exact (wipe_some e).1
        obtain ⟨G3, sm3, ew⟩ := back I3 fun b hb => by
          obtain ⟨o, e, _⟩ := T.obj _ _ st2 b hb
          exact (pin' b hb o e).2
        exact ⟨G3, sm3, T.keep _ _ _ st2 fun b hb o e => (pin' b hb o e).1, ew⟩
      have run := pg.run _ s2 _ H2 x u _ I2' r2 (step x H2 y2)
      rw [hxe] at run
      refine thnF run fun _ s3 ⟨σ3, H3, I3, hw3, q3⟩ => ?_
      refine seg_bind_wrap ?_
      rw [over_gl, ← hA]
      have run := pt.run _ s3 σ3 H3 _ I3 q3
      rw [hxe] at run
      refine thnF run fun b s4 ⟨H4, I4, q4⟩ => ?_
      cases b with
      | false =>
        have q4 : Nx H4 := q4
        obtain ⟨G4, sm4, st4, ew⟩ := fin9 I4 hw3
        obtain ⟨k', hk', w4⟩ := hNx H4 q4
        simp only [Bool.false_eq_true, if_false]
        exact seg_again rfl (ih k' s₀ s4 (i + 1) H4 (by omega) (by omega) G4 st4 (by rw [ew]; exact w4) sm4)
      | true =>
        have q4 : te σ3 H4 Gx := q4
        simp only [if_true]
        have hy : ∀ v, yieldOut Y.env v = yieldValue v := fun v => by simp only [yieldOut, hco, Bool.false_eq_true, if_false]
        simp only [hy]
        rw [Sem.bind_eq_wrap', Sem.bind_eq_wrap', Sem.wrap_wrap, Sem.wrap_wrap]
        refine seg_wrap ?_
        rw [over_gl, ← hA]
        have run := pe.run _ s4 σ3 H4 _ I4 q4
        rw [hxe] at run
        refine thnF run fun yv s5 ⟨y, H5, I5, r5, q5⟩ => ?_
        obtain ⟨G5, sm5, st5, ew⟩ := fin9 I5 hw3
        obtain ⟨k', hk', w5⟩ := hGx y H5 q5
        cases n with
        | zero => omega
        | succ n =>
          refine seg_at (seg_yield rfl rfl rfl ⟨i + 1, k', H5, y, by show k' < n + 1 - 1; omega, r5, G5, st5, (by rw [ew]; exact w5), sm5, fun s'' ⟨k2, H6, hk2, G6, st6, w6⟩ => ?_⟩)
          exact seg_again rfl (ihn n (Nat.lt_succ_self n) (k2 + 1) k2 s'' s'' (i + 1) H6 (Nat.lt_succ_self _) hk2 G6 st6 w6 fun _ _ _ e => e)
end
end Fd

set_option Elab.async false
set_option linter.all false
set_option maxRecDepth 100000
set_option maxHeartbeats 1000000
namespace Fd
open PySem PySem.Spec PyProof.Rows L2 GenW LamX
/-! ### a generator expression is made -/
/-- arounds in which it may be woken -/
structure Near (X : Cx) (B : Around) : Prop where
  hd : B.handled = none
  fr : B.frames = X.A.frames
  dp : B.depth ≤ X.A.depth + 1
  un : B.units ≤ X.A.units + 12
theorem Near.room {X : Cx} {B : Around} {k : Nat} {env : Env} (n : Near X B) (r : Room (k + 1) X.A) : Room k (AG B env) :=
  ⟨n.hd, by have := r.dp; have := n.dp; show B.depth + 1 + 3 * k + 5 < _; omega, by have := r.un; have := n.un; show B.units + 3 + 16 * k + 200 < _; omega⟩
section
variable {X : Cx} {pins : List (Addr × Obj)} {σ : L2.St} {H : Hp} {s : Shared}
theorem lookup_in {α : Type} {l : List (Str × α)} {n : Str} {c : α} (h : l.lookup n = some c) : (n, c) ∈ l := PySem.mem_of_lookup h
/-- the generator's frame, as it is made -/
theorem gen_start {scope : Scope} {own : List (Str × Nat)} {fp : List Addr} {B : Around} {code : Value} {bi : Addr} {h' : Heap} {m0 : Str → Option Value} {og : Obj} {g' : Array GenState} {t' : Nat} (I : Inv X pins σ H s) (ok : BlkOk X.N X.env.scope scope own) (hN : X.N.Nodup) (hnc : ∀ y ∈ scope.names, y.2 ≠ .cell) (hB : Near X B) (hfp : ∀ b ∈ fp, FpOk X pins H b ∧ b < s.heap.objs.size)
    (hbi : bi = builtinsNs) (hn : h'.Ns s.heap.objs.size m0) (k : ∀ b o, s.heap.get? b = some o → h'.get? b = some o) (hg : AllBare g') :
    Inv (gcx X B s H (genEnv scope (cloFrom X.env.cells scope.names []) s.heap.objs.size code bi X.env) fp) [] (wipe σ (own.map (·.2))) H { s with heap := h'.push og, gens := g', toks := t' } := by
  have hfree : ∀ y ∈ scope.names, y.2 = .free → ∃ c, X.env.cells.lookup y.1 = some c := fun y hy e => by
    rcases ok.free y hy e with z | z
    · exact I.ok.has _ (.inl z)
    · exact I.ok.has _ (.inr z)
  have kp : ∀ b o, s.heap.get? b = some o → (h'.push og).get? b = some o := fun b o e => Heap.get?_push_of_some _ (k b o e)
  have cm : ∀ {y c}, (y, c) ∈ cloFrom X.env.cells scope.names [] → X.env.cells.lookup y = some c ∧ c < s.heap.objs.size := fun {y c} hm => by
    rcases cloFrom_mem hm with z | ⟨z, rfl⟩
    · cases z
    · obtain ⟨c, hc⟩ := hfree _ z rfl
      obtain ⟨w, q⟩ := I.cell _ _ hc
      rw [hc]
      exact ⟨rfl, q.lt⟩
  have look : ∀ {y}, scope.names.lookup y = some .free → ∃ c, (cloFrom X.env.cells scope.names []).lookup y = some c ∧ X.env.cells.lookup y = some c := fun {y} hl => by
    obtain ⟨c', e'⟩ := mem_lookup (cloFrom_has (cells := X.env.cells) (acc := []) (lookup_in hl))
    exact ⟨c', e', (cm (lookup_in e')).1⟩
  generalize hge : genEnv scope (cloFrom X.env.cells scope.names []) s.heap.objs.size code bi X.env = ge
  have hL : ge.locals = s.heap.objs.size := by rw [← hge]; rfl
  have hC : ge.cells = cloFrom X.env.cells scope.names [] := by rw [← hge]; rfl
  have hS : ge.scope = scope := by rw [← hge]; rfl
  have hfr : X.A.frames = some X.stack := I.ok.frames
  have okB : (gcx X B s H ge fp).Ok := by
    refine ⟨I.ok.mod, by show ge.scope.kind = _; rw [hS]; exact ok.kind, by rw [← hge]; exact I.ok.glob, by rw [← hge]; exact hbi, by show s.heap.objs.size ≤ ge.locals; rw [hL]; exact Nat.le_refl _, fun y z c e1 e2 => ?_, fun y hy => ?_, fun y c z e => ?_, fun _ => hB.hd, ?_, .inr ⟨rfl, by rw [← hge]; rfl⟩, fun b hb => ⟨?_, fun y c e z => ?_⟩, I.bs, Nat.le_trans I.ok.bsz I.sz, fun b o e hb => ?_, fun b hb z => ?_, I.stack, I.stkFree⟩
    · have e1 : ge.cells.lookup y = some c := e1
      have e2 : ge.cells.lookup z = some c := e2
      rw [hC] at e1 e2
      exact I.ok.inj y z c (cm (lookup_in e1)).1 (cm (lookup_in e2)).1
    · show ∃ c, ge.cells.lookup y = some c
      have hy : ge.scope.names.lookup y = some .cell ∨ ge.scope.names.lookup y = some .free := hy
      rw [hS] at hy
      rcases hy with hy | hy
      · exfalso
        exact hnc _ (lookup_in hy) rfl
      · obtain ⟨c, q, _⟩ := look hy
        exact ⟨c, by rw [hC]; exact q⟩
    · exact absurd (show false = true from z) Bool.false_ne_true
    · show pushEnvs [ge] B.frames = some (ge :: X.stack)
      rw [hB.fr, hfr]; rfl
    · show b ≠ ge.locals
      rw [hL]; exact Nat.ne_of_lt (hfp b hb).2
    · have e : ge.cells.lookup y = some c := e
      rw [hC] at e
      exact (hfp b hb).1.2.2.2.2.1 y c (cm (lookup_in e)).1 z
    · rcases (hfp b hb).1.2.2.2.1 with z | z
      · exact I.ok.noex b o e z
      · exact absurd (Nat.lt_of_lt_of_le (Heap.lt_size e) (Nat.le_trans I.ok.bsz z)) (Nat.lt_irrefl _)
    · rcases List.mem_cons.mp (I.stkSub b z) with z | z
      · exact (hfp b hb).1.2.1 z
      · exact (hfp b hb).1.2.2.1 z
  refine ⟨okB, rfl, hg, Un.kept kp, ⟨m0, ?_, fun i y av e1 e2 e3 => ?_⟩, fun y c e => ?_, ?_, fun y c e => ?_, fun p hp => absurd (show p ∈ ([] : List (Addr × Obj)) from hp) (by simp), I.hok.kept kp, by rw [wipe_length]; exact I.len⟩
  · show Heap.Ns _ ge.locals _
    rw [hL]
    exact hn.keeps fun b o e => Heap.get?_push_of_some _ e
  · obtain ⟨e2, hne⟩ := wipe_some e2
    have e3 : Vis ge.scope y := e3
    rw [hS] at e3
    have no : ¬ (scope.names.lookup y = some .local ∨ scope.names.lookup y = some .cell) := fun hh => by
      have hm : y ∈ own.map (·.1) ∨ y ∉ X.N := by
        rcases hh with z | z
        · exact ok.own (y, .local) (lookup_in z) (.inl rfl)
        · exact ok.own (y, .cell) (lookup_in z) (.inr rfl)
      rcases hm with z | z
      · obtain ⟨p, hp, hpy⟩ := List.mem_map.mp z
        have e4 := ok.ix p hp
        have hpy : p.1 = y := hpy
        rw [hpy] at e4
        exact hne (List.mem_map.mpr ⟨p, hp, nodup_ix hN e4 e1⟩)
      · exact z (List.mem_of_getElem? e1)
    have hfr : scope.names.lookup y = some .free := by
      rcases e3 with z | z | z
      · exact absurd (.inl z) no
      · exact absurd (.inr z) no
      · exact z
    obtain ⟨m, hn2, hl⟩ := I.loc
    have hvis : Vis X.env.scope y := (ok.free _ (lookup_in hfr) rfl).elim (fun z => .inr (.inl z)) (fun z => .inr (.inr z))
    obtain ⟨w, r, q⟩ := hl i y av e1 e2 hvis
    obtain ⟨c, h1, h2⟩ := look hfr
    refine ⟨w, r, .inr ⟨.inr (show ge.scope.names.lookup y = some .free by rw [hS]; exact hfr), c, by show ge.cells.lookup y = some c; rw [hC]; exact h1, ?_⟩⟩
    rcases q with ⟨z, _⟩ | ⟨_, c', e', z⟩
    · have z : X.env.scope.names.lookup y = some .local := z
      rcases ok.free _ (lookup_in hfr) rfl with z' | z' <;> rw [show X.env.scope.names.lookup y = _ from z'] at z <;> cases z
    · rw [h2] at e'; cases e'
      exact z.keeps kp
  · have e : ge.cells.lookup y = some c := e
    rw [hC] at e
    obtain ⟨w, z⟩ := I.cell y c (cm (lookup_in e)).1
    exact ⟨w, z.keeps kp⟩
  · show H ge.locals = none
    rw [hL]; exact I.hok.fresh (Nat.le_refl _)
  · have e : ge.cells.lookup y = some c := e
    rw [hC] at e
    exact I.freeC y c (cm (lookup_in e)).1
/-- a generator is made, fresh -/
structure GMk (X : Cx) (pins : List (Addr × Obj)) (σ : L2.St) (tg elt iter : Expr) (ifs : List Expr) (scope : Scope) (gpos : Pos) (vs : List Nat) (R : It → Hp → Prop) (a : Addr) (s5 : Shared) (gi : Nat) (s4 : Shared) (H4 : Hp) (genv : Env) (fp : List Addr) (it : Addr) (tn : Nat → Heap → Prop) (J : It) : Prop where
  i4 : Inv X pins σ H4 s4
  i5 : ∀ B, Near X B → Inv (gcx X B s4 H4 genv fp) [] (wipe σ vs) H4 s5
  T : Turn X.prog X.w X.K tg J fp it tn
  st : tn 0 s5.heap
  fpo : ∀ b ∈ fp, FpOk X pins H4 b ∧ b < s4.heap.objs.size
  R : R J H4
  az : s4.heap.objs.size < a
  gen : s5.heap.IsGen a gi
  gs : s5.gens[gi]? = some (.fresh (.compStart (.GeneratorExp elt [⟨tg, iter, ifs, 0⟩] scope gpos) 0 (.ref it) .none genv))
  ge : ∃ cl code, genv = genEnv scope cl s4.heap.objs.size code builtinsNs X.env
theorem gen_make {T : List (Addr × Str)} {c P : Addr} {elt tg iter : Expr} {ifs : List Expr} {gpos : Pos} {scope : Scope} {own : List (Str × Nat)} {wi : TI} {k : Nat} {R : It → Hp → Prop}
    (hr : Room k X.A) (TB : TabB X.base X.mg c P) (hcode : X.env.code = .ref c) (hmT : (P, X.env.qual ++ "<genexpr>") ∈ T) (hu : ∀ p ∈ T, p.1 = P → p.2 = X.env.qual ++ "<genexpr>") (hi : PI X tg iter wi) (ok : BlkOk X.N X.env.scope scope own) (hN : X.N.Nodup) (hnc : ∀ y ∈ scope.names, y.2 ≠ .cell) (hco : scope.isCoroutine = false) (hdot : scope.names.lookup (".0" : Str) = some NameKind.local)
    (hgf : ∀ v, genFold iter X.env v = pure v) (I : Inv X pins σ H s) (h : wi σ H fun J H1 => Tabs T H1 ∧ ∀ H2, ExtN H1 H2 → Tabs T H2 → R J H2) :
    wpAny (model X.prog X.w) X.A (eval (.GeneratorExp elt [⟨tg, iter, ifs, 0⟩] scope gpos) X.env) (fun v s5 => ∃ a gi s4 H4 genv fp it tn J, v = .ref a ∧ GMk X pins σ tg elt iter ifs scope gpos (own.map (·.2)) R a s5 gi s4 H4 genv fp it tn J) X.xe s := by
  have hfree : ∀ y ∈ scope.names, y.2 = .free → ∃ c, X.env.cells.lookup y.1 = some c := fun y hy e => by
    rcases ok.free y hy e with z | z
    · exact I.ok.has _ (.inl z)
    · exact I.ok.has _ (.inr z)
  refine wpAny_GeneratorExp_make hco (closure_ok hfree) hnc hdot ok.kind (by have := hr.dp; omega) ?_ hgf
  refine wpAny_mono (hi.run pins s σ H _ I h) (fun xv s1 h1 => wpAny_mono h1 (fun itv s2 h2 => ?_) fun _ _ x => x) fun _ _ x => x
  obtain ⟨it, fp, tn, J, H1, e, I1, Tn, st, fpo, hT, hR⟩ := h2
  subst e
  refine ⟨I1.nolimit, ?_⟩
  obtain ⟨ps, hP, ht, ha⟩ := hT _ hmT
  have hPs : s2.heap.get? P = some { cls := .none, data := .fields ps } := I1.hok P _ hP
  have cd : PySem.W.CodeHd s2.heap c P := TB.code.keeps fun b u e => I1.bk b u e
  have fps : ∀ b ∈ fp, b < s2.heap.objs.size ∧ b ≠ P := fun b hb => by
    obtain ⟨o, q, _⟩ := Tn.obj _ _ st b hb
    refine ⟨Heap.lt_size q, fun z => ?_⟩
    have := (fpo b hb).1
    rw [z, hP] at this
    cases this
  have cont : ∀ (code : Value) (h3 : Heap) (tk : Nat) (H4 : Hp), Inv X pins σ H4 { s2 with heap := h3, toks := tk } → (∀ b u, b ≠ P → s2.heap.get? b = some u → h3.get? b = some u) → s2.heap.objs.size ≤ h3.objs.size → (∀ b ∈ fp, H4 b = none) → R J H4 →
      wpAny (model X.prog X.w) X.A (builtinsFor X.env.globals X.env.builtins) (fun bi s4 =>
        ∀ h', h'.Ns s4.heap.objs.size (fun y => if y = ".0" then some (.ref it) else none) → Heap.SameBut s4.heap.objs.size (s4.heap.push { cls := .type "frame", data := .dict #[] }) h' →
          ∃ a gi s4' H4 genv fp it' tn J, Value.ref h'.objs.size = .ref a ∧ GMk X pins σ tg elt iter ifs scope gpos (own.map (·.2)) R a
            { s4 with
              gens := s4.gens.push (.fresh (.compStart (.GeneratorExp elt [⟨tg, iter, ifs, 0⟩] scope gpos) 0 (.ref it) .none (genEnv scope (cloFrom X.env.cells scope.names []) s4.heap.objs.size code bi X.env)))
              toks := s4.toks + 1 + 1 + 1
              heap := h'.push { cls := .type "generator", data := .fields #[.int s4.gens.size 0, .str "<genexpr>" (s4.toks + 1), .str (X.env.qual ++ "<genexpr>") (s4.toks + 1 + 1)] } } gi s4' H4 genv fp it' tn J) X.xe { s2 with heap := h3, toks := tk } := by
    intro code h3 tk H4 I3 keep3 hsz hfp hRJ
    obtain ⟨bm, ob, e1, e2, e3, e4, e5, e6, e7, e8⟩ := TB.bm
    refine wpAny_builtinsFor (m := X.mg) (by rw [I3.ok.glob]; exact I3.mod.glob.keeps fun b u e => I3.bk b u e) e1 e2 (I3.bk _ _ e5) e6 e7 e8 ?_
    intro h' hn' hs'
    have sz3 : (h3.push { cls := .type "frame", data := .dict #[] } : Heap).objs.size = h3.objs.size + 1 := Heap.size_push ..
    have keep' : ∀ b o, h3.get? b = some o → h'.get? b = some o := fun b o q => hs'.extBut b o (Nat.ne_of_lt (Heap.lt_size q)) (Heap.get?_push_of_some _ q)
    have hszh : h'.objs.size = h3.objs.size + 1 := by rw [hs'.1, sz3]
    have fpo4 : ∀ b ∈ fp, FpOk X pins H4 b ∧ b < h3.objs.size := fun b hb => ⟨⟨hfp b hb, (fpo b hb).2⟩, Nat.lt_of_lt_of_le (fps b hb).1 hsz⟩
    refine ⟨_, s2.gens.size, { s2 with heap := h3, toks := tk }, H4, _, fp, it, tn, J, rfl, ⟨I3, fun B hB => gen_start I3 ok hN hnc hB fpo4 rfl hn' keep' ?_, Tn, ?_, fpo4, hRJ, ?_, ⟨_, _, _, Heap.get?_push_size _ rfl, rfl, rfl, rfl⟩, Array.getElem?_push_size .., ⟨_, _, rfl⟩⟩⟩
    · exact I1.bare.push rfl
    · exact Tn.keep _ _ _ st fun b hb o q => Heap.get?_push_of_some _ (keep' b o (keep3 b o (fps b hb).2 q))
    · show h3.objs.size < h'.objs.size
      omega
  cases hf : codeAmong gpos ps.toList with
  | none =>
    refine wpAny_genexprCodeX hcode (cd.code hPs ht) (cd.tab hPs) hf fun c' h' tk hx hge hlt hco' hrec htab' _ => ?_
    obtain ⟨o1, vs, f1, tf, fl, tg, inF, tx, tt, op, _, _, _, _, _, _, _, _, _, htr, _⟩ := hco'
    obtain ⟨c2, oc, vs2, t2, e2, hoc, hd, hv⟩ := hrec
    cases e2
    have nC : H1 c' = none := I1.hok.fresh hge
    have I3 := inv_table (t' := tk) (more := #[rawInt gpos.line, rawInt gpos.col, .ref c']) (h' := h') I1 hP (fun b o hb e => hx b o hb e) htab'.2 hge ⟨oc, vs2, t2, hoc, hd, hv⟩
    have hE : ExtN H1 (upd (upd H1 P (.tbl (ps ++ #[rawInt gpos.line, rawInt gpos.col, .ref c']))) c' (CodeO c' (X.env.qual ++ "<genexpr>"))) := fun b o e n => by
      rw [upd_ne (ne_of_none e nC), upd_ne (fun z => n ps (Option.some.inj (e.symm.trans (by rw [z]; exact hP))))]
      exact e
    have eL : (ps ++ #[rawInt gpos.line, rawInt gpos.col, .ref c']).toList = ps.toList ++ [rawInt gpos.line, rawInt gpos.col, .ref c'] := by simp
    refine cont (.ref c') h' tk _ I3 (fun b u hb e => hx b u hb e) (Nat.le_trans hge (Nat.le_of_lt hlt)) (fun b hb => ?_) (hR _ hE fun p hp => ?_)
    · rw [upd_ne (Nat.ne_of_lt (Nat.lt_of_lt_of_le (fps b hb).1 hge)), upd_ne (fps b hb).2]
      exact (fpo b hb).1
    · by_cases hb : p.1 = P
      · rw [hu p hp hb, hb]
        refine ⟨_, by rw [upd_ne (ne_of_none hP nC), upd_same], by rw [eL]; exact PySem.TriplesOk_snoc _ _ _ _ ht, fun p' cv hcv => ?_⟩
        rw [eL] at hcv
        rcases among_app _ ht hcv with z | z
        · obtain ⟨c0, e1, e2⟩ := ha p' cv z
          exact ⟨c0, e1, hE _ _ e2 codeO_ne⟩
        · exact ⟨c', z, upd_same⟩
      · obtain ⟨ps', a1, a2, a3⟩ := hT p hp
        refine ⟨ps', by rw [upd_ne (ne_of_none a1 nC), upd_ne hb]; exact a1, a2, fun p' cv hcv => ?_⟩
        obtain ⟨c0, e1, e2⟩ := a3 p' cv hcv
        exact ⟨c0, e1, hE _ _ e2 codeO_ne⟩
  | some cv =>
    refine wpAny_genexprCode_hit hcode (cd.code hPs ht) hf ?_
    exact cont cv s2.heap s2.toks H1 I1 (fun b u _ e => e) (Nat.le_refl _) (fun b hb => (fpo b hb).1) (hR H1 (ExtN.refl H1) hT)
end
end Fd

set_option Elab.async false
set_option linter.all false
set_option maxRecDepth 100000
set_option maxHeartbeats 1000000
namespace Fd
open PySem PySem.Spec PyProof.Rows L2 GenW LamX
section
variable {Y : Cx} {fp ws : List Addr} {σ : L2.St} {vs : List Nat} {A B : Around} {tn : Nat → Heap → Prop} {it : Addr} {J : It} {tg elt iter : Expr} {ifs : List Expr} {scope : Scope} {pos : Pos} {g : TG} {tt : TT} {te : TE}
  {St : Vw → Nat → Nat → Hp → Prop} {Gt : Vw → Nat → Nat → V → Hp → Prop} {Fin : Vw → Hp → Prop}
def GenR (Y : Cx) (fp ws : List Addr) (σ0 : L2.St) (Fin : Vw → Hp → Prop) : GenEnd := fun n s₀ r s₁ => r = .ok .next ∧ PR Y fp ws σ0 Fin s₀ s₁
theorem seg_first (hA : Y.A = AG B Y.env) (hc : Y.calm = true) (hxe : Y.xe = fun _ _ => False) (hpn : Y.pn = []) (hex : ∀ b ∈ fp, b ∈ Y.ex) (hco : Y.env.scope.isCoroutine = false) (T : Turn Y.prog Y.w Y.K tg J fp it tn) (pg : PG Y tg g) (pt : PTs Y ifs tt) (pe : PE Y elt te) (turn : TurnOk J σ vs g tt te St Gt Fin)
    (n k : Nat) (s : Shared) (H : Hp) (hkn : k < n) (G : GSt Y fp ws (wipe σ vs) H s) (st : tn 0 s.heap) (q : St (vw ws s) 0 k H) :
    Seg (model Y.prog Y.w) B (GenR Y fp ws (wipe σ vs) Fin) (PY Y fp ws tn (wipe σ vs) St Gt) n s (.compStart (.GeneratorExp elt [⟨tg, iter, ifs, 0⟩] scope pos) 0 (.ref it) .none Y.env)
        ((model Y.prog Y.w).den (.compStart (.GeneratorExp elt [⟨tg, iter, ifs, 0⟩] scope pos) 0 (.ref it) .none Y.env)) [] s := by
  have loop := seg_gen (iter := iter) (scope := scope) (pos := pos) hA hc hxe hpn hex hco T pg pt pe turn n (k + 1) k s s 0 H (Nat.lt_succ_self _) hkn G st q fun _ _ _ e => e
  show Seg _ B _ _ _ s _ ((compStart (.GeneratorExp elt [⟨tg, iter, ifs, 0⟩] scope pos) 0 (.ref it) .none Y.env).onRaise (leaving Y.env)) [] s
  unfold compStart
  rw [Sem.onRaise_eq_wrap]
  show Seg _ B _ _ _ s _ ((ask >>= _).wrap _ _ _ _) [] s
  refine seg_bind_wrap (wpAny_askSetting ?_)
  split
  · exact seg_again rfl loop
  · first
      | exact seg_bind_wrap (wpAny_rule (seg_bind_wrap (wpAny_standAt (seg_bind_wrap (T.self _ 0 s _ _ st (seg_again rfl loop))))))
      | (refine seg_bind_wrap (wpAny_rule ?_); show Seg _ B _ _ _ s _ ((standAt iter.pos >>= _).wrap _ _ _ _) [] s; exact seg_bind_wrap (wpAny_standAt (seg_bind_wrap (T.self _ 0 s _ _ st (seg_again rfl loop)))))
/-- it sleeps ahead of item i; at most n items are left -/
structure Live (Y : Cx) (B : Around) (fp ws : List Addr) (tn : Nat → Heap → Prop) (σ0 : L2.St) (St : Vw → Nat → Nat → Hp → Prop) (Gt : Vw → Nat → Nat → V → Hp → Prop) (Fin : Vw → Hp → Prop) (a gi i n : Nat) (s : Shared) : Prop where
  gen : s.heap.IsGen a gi
  gs : ∃ x, s.gens[gi]? = some x ∧ ∀ s'', (∃ k H, k < n ∧ GSt Y fp ws σ0 H s'' ∧ tn i s''.heap ∧ St (vw ws s'') i k H) → x.Goes (model Y.prog Y.w) B (GenR Y fp ws σ0 Fin) (PY Y fp ws tn σ0 St Gt) n (.send .none) s''
theorem Live.mono' {σ0 : L2.St} {a gi i n : Nat} {s s' : Shared} (l : Live Y B fp ws tn σ0 St Gt Fin a gi i n s) (hg : s'.gens = s.gens) (hk : ∀ o, s.heap.get? a = some o → s'.heap.get? a = some o) : Live Y B fp ws tn σ0 St Gt Fin a gi i n s' :=
  ⟨let ⟨o, nm, qn, ho, r⟩ := l.gen; ⟨o, nm, qn, hk o ho, r⟩, by rw [hg]; exact l.gs⟩
theorem Live.mono {a gi i n : Nat} {s s' : Shared} (l : Live Y B fp ws tn (wipe σ vs) St Gt Fin a gi i n s) (hg : s'.gens = s.gens) (hk : ∀ o, s.heap.get? a = some o → s'.heap.get? a = some o) : Live Y B fp ws tn (wipe σ vs) St Gt Fin a gi i n s' :=
  ⟨let ⟨o, nm, qn, ho, r⟩ := l.gen; ⟨o, nm, qn, hk o ho, r⟩, by rw [hg]; exact l.gs⟩
theorem gen_next {a gi i n k : Nat} {s : Shared} {H : Hp} {σ0 : L2.St} {Q : Option Value → Shared → Prop} {E : Value → Shared → Prop} (hAB : A.in1 = B) (hh : A.handled = none) (hroom : A.depth < recursionLimit) (ha : a ∈ ws) (l : Live Y B fp ws tn σ0 St Gt Fin a gi i n s) (hkn : k < n) (G : GSt Y fp ws σ0 H s) (st : tn i s.heap) (q : St (vw ws s) i k H)
    (hdone : ∀ s' H', GSt Y fp ws σ0 H' s' → Fin (vw ws s') H' → Same ws s s' → Q none s')
    (hitem : ∀ m v s' i' k' H' y, n = m + 1 → k' < m → RelV y v → GSt Y fp ws σ0 H' s' → tn i' s'.heap → Gt (vw ws s') i' k' y H' → Same ws s s' → Live Y B fp ws tn σ0 St Gt Fin a gi i' m s' → Q (some v) s') :
    wpAny (model Y.prog Y.w) A (pyNext (.ref a)) Q E s := by
  subst hAB
  obtain ⟨x, hx, hgo⟩ := l.gs
  have hgl : gi < s.gens.size := (Array.getElem?_eq_some_iff.mp hx).1
  refine wpAny_gsz (n := gi + 1) hgl (wpAny_pyNext_genexpQ (P := fun n s₀ s₁ => PR Y fp ws σ0 Fin s₀ s₁) hh G.inv.nolimit hroom l.gen hx (hgo _ ⟨k, H, hkn, G.gens (allBare_setGen G.inv.bare rfl), st, q⟩) (fun v s₁ gs' hb hv => ?_) fun s₁ hp h' hk => ?_)
  · intro hsz
    obtain ⟨i', k', H', y, hk', ry, G', st', gt, sm, hkap⟩ := hv
    have hsz1 : gi < s₁.gens.size := by
      have q : (s₁.setGen gi gs').gens.size = s₁.gens.size := setGen_size _ _ _
      have hsz' : gi + 1 ≤ (s₁.setGen gi gs').gens.size := hsz
      omega
    cases n with
    | zero =>
      have : k' < 0 - 1 := hk'
      omega
    | succ m =>
      refine hitem m v _ i' k' H' y rfl hk' ry (G'.gens (allBare_setGen G'.inv.bare hb)) st' gt (fun b hb o e => sm b hb o e) ⟨?_, gs', setGen_at hsz1, fun s'' hs => ?_⟩
      · obtain ⟨o, nm, qn, ho, r⟩ := l.gen
        exact ⟨o, nm, qn, sm a ha o ho, r⟩
      · obtain ⟨k2, H2, h1, h2, h3, h4⟩ := hs
        exact hkap s'' ⟨k2, H2, h1, h2, h3, h4⟩
  · intro _
    obtain ⟨H', G', fin, sm⟩ := hp
    have G2 := G'.kept (t' := s₁.toks) hk
    have ew : vw ws { s₁ with heap := h' } = vw ws s₁ := vw_same (s' := { s₁ with heap := h' }) G' fun b _ o e => hk b o e
    exact hdone _ H' (G2.gens (allBare_setGen G'.inv.bare rfl)) (show Fin (vw ws { s₁ with heap := h' }) H' by rw [ew]; exact fin) fun b hb o e => hk b o (sm b hb o e)
end
end Fd

set_option Elab.async false
set_option linter.all false
set_option maxRecDepth 100000
set_option maxHeartbeats 1000000
namespace Fd
open PySem PySem.Spec PyProof.Rows L2 GenW LamX
/-! ### a block's own names -/
def wipeE (σ : En) : List Nat → En
  | [] => σ
  | v :: vs => (wipeE σ vs).set v none
def NoX : XK := fun _ _ _ => False
def nox {α : Type} (m : M α) : M α := fun S => match m S with
  | .exc _ _ => .stk
  | r => r
section
variable {G : Gx} {μ : Nat → Addr} {S : Sto} {H : Hp} {W : XK}
theorem nox_bind {α β : Type} {m : M α} {k : α → M β} {Q : β → Sto → (Nat → Addr) → Hp → Prop} (p : Post G μ S H W Q ((nox m >>= k) S)) : Post G μ S H NoX (fun a S1 μ1 H1 => Post G μ1 S1 H1 W Q (k a S1)) (m S) := by
  have p := Post.bind p
  unfold nox at p
  cases e : m S with
  | ok a S1 => rw [e] at p; exact p
  | exc c S1 => rw [e] at p; exact p.elim
  | stk => rw [e] at p; exact p.elim
theorem wipeE_length (σ : En) : ∀ vs : List Nat, (wipeE σ vs).length = σ.length
  | [] => rfl
  | v :: vs => by unfold wipeE; rw [List.length_set, wipeE_length σ vs]
theorem wipeE_some {σ : En} {i : Nat} {x : D} : ∀ {vs : List Nat}, (wipeE σ vs)[i]? = some (some x) → σ[i]? = some (some x) ∧ i ∉ vs
  | [], h => ⟨h, by simp⟩
  | v :: vs, h => by
    unfold wipeE at h
    by_cases hi : v = i
    · subst hi
      by_cases hv : v < (wipeE σ vs).length
      · rw [List.getElem?_set_self hv] at h; cases h
      · rw [List.getElem?_eq_none (by simpa using hv)] at h; cases h
    · rw [List.getElem?_set_ne hi] at h
      obtain ⟨h1, h2⟩ := wipeE_some h
      exact ⟨h1, by simp only [List.mem_cons, not_or]; exact ⟨fun e => hi e.symm, h2⟩⟩
theorem At.wipe {σd : En} {σ : L2.St} (a : At G σd S μ σ H) (vs : List Nat) : At G (wipeE σd vs) S μ (L2.wipe σ vs) H :=
  ⟨⟨by rw [wipeE_length, wipe_length]; exact a.en.len, fun i d e => by
    obtain ⟨e1, e2⟩ := wipeE_some e
    obtain ⟨v, h1, h2⟩ := a.en.at_ i d e1
    exact ⟨v, by rw [wipe_out e2]; exact h1, h2⟩⟩, a.lnk⟩
theorem wipe_set {σ : L2.St} {i : Nat} {x : Option V} : ∀ {vs : List Nat}, i ∈ vs → L2.wipe (σ.set i x) vs = L2.wipe σ vs
  | [], h => absurd h (by simp)
  | v :: vs, h => by
    unfold L2.wipe
    by_cases hi : i ∈ vs
    · rw [wipe_set hi]
    · have e : i = v := by
        rcases List.mem_cons.mp h with z | z
        · exact z
        · exact absurd z hi
      subst e
      have key : ∀ (vs : List Nat), i ∉ vs → L2.wipe (σ.set i x) vs = (L2.wipe σ vs).set i x := by
        intro vs
        induction vs with
        | nil => intro _; rfl
        | cons w ws ih =>
          intro hn
          unfold L2.wipe
          rw [ih fun z => hn (List.mem_cons_of_mem _ z), List.set_comm _ _ (fun z => hn (by rw [z]; exact List.mem_cons_self))]
      rw [key vs hi, List.set_set]
end
theorem wipe_none {σ : L2.St} {i : Nat} : ∀ {vs : List Nat}, i ∈ vs → i < σ.length → (L2.wipe σ vs)[i]? = some none
  | [], h, _ => absurd h (by simp)
  | v :: vs, h, hl => by
    unfold L2.wipe
    by_cases hi : v = i
    · subst hi
      rw [List.getElem?_set_self (by rw [wipe_length]; exact hl)]
    · rw [List.getElem?_set_ne hi]
      exact wipe_none ((List.mem_cons.mp h).resolve_left fun z => hi z.symm) hl
theorem wipe_wipe (σ : L2.St) (vs : List Nat) : L2.wipe (L2.wipe σ vs) vs = L2.wipe σ vs := by
  refine List.ext_getElem? fun i => ?_
  by_cases hi : i ∈ vs
  · by_cases hl : i < σ.length
    · rw [wipe_none hi (by rw [wipe_length]; exact hl), wipe_none hi hl]
    · rw [List.getElem?_eq_none (by rw [wipe_length, wipe_length]; omega), List.getElem?_eq_none (by rw [wipe_length]; omega)]
  · rw [wipe_out hi]
/-! ### targets within a block -/
section
variable {X : Cx} {G : Gx} {W : XK} {vs : List Nat}
def rdGc (G : Gx) (W : XK) (vs : List Nat) (g : D → En → M En) : TG := fun v σ H Q => ∃ d σd S μ, At G σd S μ σ H ∧ RV G μ S.n H d v ∧ Post G μ S H W (fun σd' S' μ' H' => ∀ σ', REn G μ' S'.n H' σd' σ' → L2.wipe σ' vs = L2.wipe σ vs → Q σ' H') (g d σd S)
def rdGcs (G : Gx) (W : XK) (vs : List Nat) (g : List D → En → M En) : TGs := fun us σ H Q => ∃ ds σd S μ, At G σd S μ σ H ∧ RVs G μ S.n H ds us ∧ Post G μ S H W (fun σd' S' μ' H' => ∀ σ', REn G μ' S'.n H' σd' σ' → L2.wipe σ' vs = L2.wipe σ vs → Q σ' H') (g ds σd S)
abbrev SGc (X : Cx) (G : Gx) (W : XK) (vs : List Nat) (tg : Expr) (g : D → En → M En) : Prop := PG X tg (rdGc G W vs g)
abbrev SGcs (X : Cx) (G : Gx) (W : XK) (vs : List Nat) (tgs : List Expr) (g : List D → En → M En) : Prop := PGs X tgs (rdGcs G W vs g)
theorem sgc_name (i : Nat) {x : Str} {pos : Pos} (hN : X.N.Nodup) (hv : i ∈ vs := by decide) (hi : X.N[i]? = some x := by rfl) (hx : Loc X.env.scope x := by first | exact Or.inl rfl | exact Or.inr rfl) (hf : X.fn x = true ∨ X.env.scope.names.lookup x = some .local := by first | exact .inl rfl | exact .inr rfl | assumption) : SGc X G W vs (.Name x pos) (nameG i) :=
  pg_imp (pg_name hN hi hx hf) fun v σ H Q ⟨d, σd, S, μ, a, r, h⟩ => (Post.here a.lnk h) _ (a.en.set r) (wipe_set hv)
theorem sgcs_nil : SGcs X G W vs [] nilG := pgs_imp pgs_nil fun us σ H Q ⟨ds, σd, S, μ, a, r, h⟩ => by
  cases ds with
  | nil => exact ⟨r, (Post.here a.lnk h) _ a.en rfl⟩
  | cons _ _ => exact h.elim
theorem sgcs_cons {tg : Expr} {tgs : List Expr} {g : D → En → M En} {gs : List D → En → M En} (h1 : SGc X G W vs tg g) (h2 : SGcs X G W vs tgs gs) (hs : (assignEach (tg :: tgs) X.env).map (·.2) = assign tg X.env :: (assignEach tgs X.env).map (·.2) := by rfl) : SGcs X G W vs (tg :: tgs) (consG g gs) := by
  refine pgs_imp (pgs_cons h1 h2 hs) fun us σ H Q ⟨ds, σd, S, μ, a, r, h⟩ => ?_
  cases ds with
  | nil => exact h.elim
  | cons d ds =>
    obtain ⟨v, vr, rfl, r1, r2⟩ := r
    refine ⟨v, vr, rfl, d, σd, S, μ, a, r1, (Post.bind (k := fun σ' => gs ds σ') h).mono fun σd' S1 μ1 H1 s q σ' en hw => ?_⟩
    exact ⟨ds, σd', S1, μ1, ⟨en, s.lnk⟩, s.rvs a.lnk r2, Post.mono (fun a S' μ' H' _ z σ2 en2 hw2 => z σ2 en2 (hw2.trans hw)) q⟩
theorem sgc_tup {tgs : List Expr} {k : Nat} {gs : List D → En → M En} {pos : Pos} (n : Nat) (hK : G.K = X.K) (hc : X.calm = true) (h : SGcs X G W vs tgs gs) (hn : (assignEach tgs X.env).length = n := by rfl) (hst : (assignEach tgs X.env).findIdx? (·.1) = none := by rfl) : SGc X G W vs (.Tuple tgs k pos) (tupG n gs) :=
  pg_imp (pg_tup hc h hn hst) fun v σ H Q ⟨d, σd, S, μ, a, r, p⟩ => by
    unfold tupG at p
    cases e : tupD d with
    | none => rw [e] at p; exact p.elim
    | some ds =>
      rw [e] at p
      obtain ⟨ad, us, rfl, h1, h2⟩ := tupD_ok r e
      by_cases hl : ds.length = n
      · simp only [hl, if_true] at p
        exact ⟨ad, us, rfl, by rw [← hK]; exact h1, by rw [← h2.length]; exact hl, ds, σd, S, μ, a, h2, p⟩
      · simp only [hl, if_false] at p
        exact p.elim
abbrev STs (X : Cx) (G : Gx) (W : XK) (ifs : List Expr) (t : En → M Bool) : Prop := PTs X ifs (rdT G W t)
def yesT : En → M Bool := fun _ => M.pure true
theorem pts_imp {ifs : List Expr} {t t' : TT} (h : PTs X ifs t) (m : ∀ σ H Q, t' σ H Q → t σ H Q) : PTs X ifs t' := ⟨fun pins s σ H Q I q => h.run pins s σ H Q I (m σ H Q q)⟩
theorem sts_nil : STs X G W [] yesT := pts_imp pts_nil fun σ H Q ⟨σd, S, μ, a, h⟩ => Post.here (W := W) a.lnk h
theorem sts_one {c : Expr} {t : En → M Bool} (h : STe X G W c t) : STs X G W [c] t := pts_one h
end
/-! ### the generator's reading -/
/-- one item: what is handed out, if anything -/
def bodG (vs : List Nat) (g : D → En → M En) (t : En → M Bool) (fe : En → M D) (σ : En) : D → M (Option D) := fun d => g d (wipeE σ vs) >>= fun σ1 => t σ1 >>= fun b => if b = true then fe σ1 >>= fun y => M.pure (some y) else M.pure none
def genL (bod : D → M (Option D)) (chk : List D → D → Option (Option D)) (fin : List D → M D) : List D → List D → M D
  | ys, [] => fin ys
  | ys, x :: xs => nox (bod x) >>= fun o => match o with
    | none => genL bod chk fin ys xs
    | some d => match chk ys d with
      | none => M.stk
      | some (some r) => M.pure r
      | some none => genL bod chk fin (ys ++ [d]) xs
def genE (fit : En → M (List D)) (vs : List Nat) (g : D → En → M En) (t : En → M Bool) (fe : En → M D) (chk : List D → D → Option (Option D)) (fin : List D → M D) : En → M D := fun σ => fit σ >>= fun ds => genL (bodG vs g t fe σ) chk fin [] ds
section
variable {G : Gx} {W : XK}
abbrev WQ (G : Gx) (Q : VK) : D → Sto → (Nat → Addr) → Hp → Prop := fun d S' μ' H' => ∀ v, RV G μ' S'.n H' d v → Q v H'
def StD (G : Gx) (W : XK) (Q : VK) (bod : D → M (Option D)) (chk : List D → D → Option (Option D)) (fin : List D → M D) (Rp : List V → Vw → Prop) (ds : List D) (μ1 : Nat → Addr) (S1 : Sto) (H1 : Hp) (w : Vw) (i k : Nat) (H : Hp) : Prop :=
  k = ds.length - i ∧ i ≤ ds.length ∧ ∃ ys us S μ, Rp us w ∧ RVs G μ S.n H ys us ∧ Stp G μ1 S1 H1 μ S H ∧ Post G μ S H W (WQ G Q) (genL bod chk fin ys (ds.drop i) S)
def GtD (G : Gx) (W : XK) (Q : VK) (bod : D → M (Option D)) (chk : List D → D → Option (Option D)) (fin : List D → M D) (Rp : List V → Vw → Prop) (ds : List D) (μ1 : Nat → Addr) (S1 : Sto) (H1 : Hp) (w : Vw) (i k : Nat) (y : V) (H : Hp) : Prop :=
  k = ds.length - i ∧ i ≤ ds.length ∧ ∃ ys us d S μ, Rp us w ∧ RVs G μ S.n H ys us ∧ RV G μ S.n H d y ∧ Stp G μ1 S1 H1 μ S H ∧ ((∃ r, chk ys d = some (some r) ∧ Post G μ S H W (WQ G Q) (.ok r S)) ∨ (chk ys d = some none ∧ Post G μ S H W (WQ G Q) (genL bod chk fin (ys ++ [d]) (ds.drop i) S)))
def FinD (G : Gx) (W : XK) (Q : VK) (fin : List D → M D) (Rp : List V → Vw → Prop) (μ1 : Nat → Addr) (S1 : Sto) (H1 : Hp) (w : Vw) (H : Hp) : Prop :=
  ∃ ys us S μ, Rp us w ∧ RVs G μ S.n H ys us ∧ Stp G μ1 S1 H1 μ S H ∧ Post G μ S H W (WQ G Q) (fin ys S)
theorem turnD {J : It} {σ : L2.St} {σd : En} {vs : List Nat} {g : D → En → M En} {t : En → M Bool} {fe : En → M D} {Q : VK} {chk : List D → D → Option (Option D)} {fin : List D → M D} {Rp : List V → Vw → Prop} {ds : List D} {μ1 : Nat → Addr} {S1 : Sto} {H1 : Hp}
    (a : At G σd S1 μ1 σ H1) (ok : ItOk G J μ1 S1 H1 ds) :
    TurnOk J σ vs (rdGc G NoX vs g) (rdT G NoX t) (rdE G NoX fe) (StD G W Q (bodG vs g t fe σd) chk fin Rp ds μ1 S1 H1) (GtD G W Q (bodG vs g t fe σd) chk fin Rp ds μ1 S1 H1) (FinD G W Q fin Rp μ1 S1 H1) := by
  rintro w i k H ⟨rfl, hi, ys, us, S, μ, rp, ry, s, p⟩
  obtain ⟨o1, o2, o3⟩ := ok μ S H s
  by_cases hlt : i < ds.length
  · refine .inr ⟨o1 i hlt, fun H' => StD G W Q (bodG vs g t fe σd) chk fin Rp ds μ1 S1 H1 w (i + 1) (ds.length - (i + 1)) H', fun y H' => GtD G W Q (bodG vs g t fe σd) chk fin Rp ds μ1 S1 H1 w (i + 1) (ds.length - (i + 1)) y H', fun H' z => ⟨_, by omega, z⟩, fun y H' z => ⟨_, by omega, z⟩, fun x H' y => ?_⟩
    have hd : ds[i]? = some ds[i] := List.getElem?_eq_getElem hlt
    obtain ⟨s2, r2⟩ := o3 i _ hd x H' y
    rw [List.drop_eq_getElem_cons hlt] at p
    have p1 := nox_bind (k := fun o => match o with
      | none => genL (bodG vs g t fe σd) chk fin ys (ds.drop (i + 1))
      | some d => match chk ys d with
        | none => M.stk
        | some (some r) => M.pure r
        | some none => genL (bodG vs g t fe σd) chk fin (ys ++ [d]) (ds.drop (i + 1))) p
    have a0 : At G σd S μ σ H := a.step s
    refine ⟨ds[i], wipeE σd vs, S, μ, (a0.step s2).wipe vs, r2, ?_⟩
    have p2 := Post.bind (k := fun σ1 => t σ1 >>= fun b => if b = true then fe σ1 >>= fun y => M.pure (some y) else M.pure none) p1
    refine (p2.later s2).mono fun σd3 S3 μ3 H3 s3 q3 σ3 en3 hw => ⟨hw.trans (wipe_wipe σ vs), ?_⟩
    refine ⟨σd3, S3, μ3, ⟨en3, s3.lnk⟩, (Post.bind (k := fun b => if b = true then fe σd3 >>= fun y => M.pure (some y) else M.pure none) q3).mono fun b S4 μ4 H4 s4 q4 => ?_⟩
    have s24 := (s2.trans s3).trans s4
    cases b with
    | false =>
      have q5 := Post.here (W := NoX) s4.lnk q4
      exact ⟨rfl, hlt, ys, us, S4, μ4, rp, s24.rvs s.lnk ry, s.trans s24, q5⟩
    | true =>
      refine ⟨σd3, S4, μ4, ⟨en3.mono s4.grow s3.lnk.tf, s4.lnk⟩, (Post.bind (k := fun y => M.pure (some y)) q4).mono fun d S5 μ5 H5 s5 q5 v rv => ?_⟩
      have s25 := s24.trans s5
      have q6 := Post.here (W := NoX) s5.lnk q5
      refine ⟨rfl, hlt, ys, us, d, S5, μ5, rp, s25.rvs s.lnk ry, rv, s.trans s25, ?_⟩
      simp only at q6
      cases ec : chk ys d with
      | none => rw [ec] at q6; exact q6.elim
      | some o =>
        rw [ec] at q6
        cases o with
        | none => exact .inr ⟨rfl, q6⟩
        | some r => exact .inl ⟨r, rfl, q6⟩
  · have e : i = ds.length := by omega
    subst e
    rw [List.drop_length] at p
    exact .inl ⟨o2, ys, us, S, μ, rp, ry, s, p⟩
end
end Fd

set_option Elab.async false
set_option linter.all false
set_option maxRecDepth 100000
set_option maxHeartbeats 1000000
namespace Fd
open PySem PySem.Spec PyProof.Rows L2 GenW LamX
section
variable {X : Cx} {pins : List (Addr × Obj)} {σ : L2.St} {tg elt iter : Expr} {ifs : List Expr} {scope : Scope} {gpos : Pos} {vs : List Nat} {R : It → Hp → Prop} {a gi : Nat} {s5 s4 : Shared} {H4 : Hp} {genv : Env} {fp ws : List Addr} {it : Addr} {tn : Nat → Heap → Prop} {J : It} {B : Around}
theorem GMk.back (M : GMk X pins σ tg elt iter ifs scope gpos vs R a s5 gi s4 H4 genv fp it tn J) {H : Hp} {s : Shared} {σ0 : L2.St} (g : GSt (gcx X B s4 H4 genv fp) fp ws σ0 H s) : Inv X pins σ H s :=
  M.i4.call' (ch := fp) g.inv.os g.inv.base g.inv.hok g.inv.bare fun b hb => let z := (M.fpo b hb).1; ⟨z.2.2.2.1, z.2.1, z.2.2.2.2.1, z.2.2.2.2.2⟩
theorem GMk.gst (M : GMk X pins σ tg elt iter ifs scope gpos vs R a s5 gi s4 H4 genv fp it tn J) (hB : Near X B) {h6 : Heap} {t6 : Nat} (k : ∀ b o, s5.heap.get? b = some o → h6.get? b = some o) (hws : ∀ b ∈ ws, b = a ∨ (s5.heap.objs.size ≤ b ∧ ∃ o, h6.get? b = some o ∧ ∀ v, o.data ≠ .cell v)) :
    GSt (gcx X B s4 H4 genv fp) fp ws (L2.wipe σ vs) H4 { s5 with heap := h6, toks := t6 } := by
  have I := (M.i5 B hB).kept (t' := t6) k
  obtain ⟨cl, code, e⟩ := M.ge
  have hL : genv.locals = s4.heap.objs.size := by rw [e]; rfl
  have h45 : s4.heap.objs.size ≤ s5.heap.objs.size := (M.i5 B hB).sz
  have off : ∀ b, s4.heap.objs.size < b → H4 b = none ∧ (b ∈ fp ∨ s4.heap.objs.size ≤ b) ∧ b ≠ genv.locals ∧ b ∉ fp := fun b hb =>
    ⟨M.i4.hok.fresh (Nat.le_of_lt hb), .inr (Nat.le_of_lt hb), by rw [hL]; exact Nat.ne_of_gt hb, fun z => absurd (M.fpo b z).2 (Nat.not_lt.mpr (Nat.le_of_lt hb))⟩
  refine ⟨I, fun b hb => (M.fpo b hb).1.1, fun b hb => ?_⟩
  rcases hws b hb with z | ⟨z, o, e1, e2⟩
  · rw [z]
    obtain ⟨q1, q2, q3, q4⟩ := off a M.az
    obtain ⟨o, nm, qn, ho, _, hd, _⟩ := M.gen
    exact ⟨q1, q2, q3, q4, o, k a o ho, fun v e => by rw [hd] at e; cases e⟩
  · have lt : s4.heap.objs.size < b := by
      obtain ⟨o, nm, qn, ho, _⟩ := M.gen
      exact Nat.lt_of_lt_of_le (Nat.lt_trans M.az (Heap.lt_size ho)) z
    obtain ⟨q1, q2, q3, q4⟩ := off b lt
    exact ⟨q1, q2, q3, q4, o, e1, e2⟩
end
section
variable {X : Cx} {G : Gx} {W : XK} {pins : List (Addr × Obj)} {σ : L2.St} {tg elt iter : Expr} {ifs : List Expr} {scope : Scope} {gpos : Pos} {vs : List Nat} {R : It → Hp → Prop} {a gi : Nat} {s5 s4 : Shared} {H4 : Hp} {genv : Env} {fp ws : List Addr} {it : Addr} {tn : Nat → Heap → Prop} {J : It} {B : Around}
  {g : D → En → M En} {t : En → M Bool} {fe : En → M D} {Q : VK} {chk : List D → D → Option (Option D)} {fin : List D → M D} {Rp : List V → Vw → Prop} {ds : List D} {μ1 : Nat → Addr} {S1 : Sto} {σd : En}
/-- the pieces of a generator expression, whatever its frame -/
structure GPc (X : Cx) (G : Gx) (scope : Scope) (vs : List Nat) (tg elt : Expr) (ifs : List Expr) (g : D → En → M En) (t : En → M Bool) (fe : En → M D) : Prop where
  run : ∀ (B : Around) (s : Shared) (H : Hp) (cl : List (Str × Addr)) (C : Addr) (code : Value) (fp : List Addr), Near X B →
    SGc (gcx X B s H (genEnv scope cl C code builtinsNs X.env) fp) G NoX vs tg g ∧ STs (gcx X B s H (genEnv scope cl C code builtinsNs X.env) fp) G NoX ifs t ∧ SE (gcx X B s H (genEnv scope cl C code builtinsNs X.env) fp) G NoX elt fe
abbrev RpT : List V → Vw → Prop := fun _ _ => True
abbrev LiveD (X : Cx) (G : Gx) (W : XK) (Q : VK) (B : Around) (s4 : Shared) (H4 : Hp) (genv : Env) (fp ws : List Addr) (tn : Nat → Heap → Prop) (σ : L2.St) (vs : List Nat) (g : D → En → M En) (t : En → M Bool) (fe : En → M D) (σd : En) (chk : List D → D → Option (Option D)) (fin : List D → M D) (Rp : List V → Vw → Prop) (ds : List D) (μ1 : Nat → Addr) (S1 : Sto) (a gi i n : Nat) (s : Shared) : Prop :=
  Live (gcx X B s4 H4 genv fp) B fp ws tn (L2.wipe σ vs) (StD G W Q (bodG vs g t fe σd) chk fin Rp ds μ1 S1 H4) (GtD G W Q (bodG vs g t fe σd) chk fin Rp ds μ1 S1 H4) (FinD G W Q fin Rp μ1 S1 H4) a gi i n s
theorem GMk.live (M : GMk X pins σ tg elt iter ifs scope gpos vs R a s5 gi s4 H4 genv fp it tn J) (hB : Near X B) (hc : X.calm = true) (hco : scope.isCoroutine = false) (pc : GPc X G scope vs tg elt ifs g t fe) (a0 : At G σd S1 μ1 σ H4) (ok : ItOk G J μ1 S1 H4 ds) {s6 : Shared} (hg : s6.gens = s5.gens) (k : ∀ o, s5.heap.get? a = some o → s6.heap.get? a = some o) :
    LiveD X G W Q B s4 H4 genv fp ws tn σ vs g t fe σd chk fin Rp ds μ1 S1 a gi 0 (ds.length + 1) s6 := by
  obtain ⟨cl, code, e⟩ := M.ge
  obtain ⟨p1, p2, p3⟩ := pc.run B s4 H4 cl s4.heap.objs.size code fp hB
  refine ⟨let ⟨o, nm, qn, ho, r⟩ := M.gen; ⟨o, nm, qn, k o ho, r⟩, _, (by rw [hg]; exact M.gs), fun s'' ⟨kk, H, hk, G', st, q⟩ => ?_⟩
  subst e
  exact ⟨rfl, seg_first (Y := gcx X B s4 H4 (genEnv scope cl s4.heap.objs.size code builtinsNs X.env) fp) rfl hc rfl rfl (fun _ h => h) hco M.T p1 p2 p3 (turnD a0 ok) _ kk s'' H hk G' st q⟩
/-- the state ahead of the first item -/
theorem StD.first (L : Lnk G μ1 S1 H4) {w : Vw} (rp : Rp [] w) (p : Post G μ1 S1 H4 W (WQ G Q) (genL (bodG vs g t fe σd) chk fin [] ds S1)) : StD G W Q (bodG vs g t fe σd) chk fin Rp ds μ1 S1 H4 w 0 ds.length H4 :=
  ⟨rfl, Nat.zero_le _, [], [], S1, μ1, rp, rfl, .refl L, p⟩
/-! ### any, all -/
def chkB (b : Bool) : List D → D → Option (Option D) := fun _ d => match d with
  | .bl x => if x = b then some (some (.bl b)) else some none
  | _ => none
def finB (b : Bool) : List D → M D := fun _ => M.pure (.bl b)
theorem any_loop {Y : Cx} {A : Around} {bod : D → M (Option D)} {σ0 : L2.St} {Rr : Result → Shared → Prop} {H1 : Hp} (hh : A.handled = none) (hd : A.depth < recursionLimit) (ha : a ∈ ws) :
    ∀ (n i k : Nat) (H : Hp) (s : Shared), Live Y A.in1.in1 fp ws tn σ0 (StD G W Q bod (chkB true) (finB false) RpT ds μ1 S1 H1) (GtD G W Q bod (chkB true) (finB false) RpT ds μ1 S1 H1) (FinD G W Q (finB false) RpT μ1 S1 H1) a gi i n s → k < n → GSt Y fp ws σ0 H s → tn i s.heap → StD G W Q bod (chkB true) (finB false) RpT ds μ1 S1 H1 (vw ws s) i k H →
      (∀ b s' H', GSt Y fp ws σ0 H' s' → Q (.bl b) H' → Rr (.ok (.ret (.bool b))) s') → codeAny (model Y.prog Y.w) A (.builtin "any.loop" ⟨[.ref a], []⟩) Rr s := by
  intro n
  induction n using Nat.strongRecOn with
  | ind n ih =>
  intro i k H s l hk Gs st q hR
  refine (codeAny_builtin F.entry_any_loop) ?_
  rw [(Around.under_plainId F.plain_any_loop _)]
  show wpAny _ A.in1 (pyNext (.ref a) >>= _) _ _ s
  refine wpAny_bind (gen_next (B := A.in1.in1) rfl hh hd ha l hk Gs st q (fun s' H' G' f sm => ?_) fun m v s' i' k' H' y hn hk' ry G' st' gt sm l' => ?_)
  · obtain ⟨ys, us, S, μ, _, _, s1, p⟩ := f
    exact wpAny_bind (wpAny_rule (wpAny_pure (hR false s' H' G' ((Post.here (W := W) s1.lnk p) _ rfl))))
  · obtain ⟨e1, e2, ys, us, d, S, μ, rp, rys, rd, s1, p⟩ := gt
    cases d with
    | bl b =>
      have ry1 : y = .bl b := rd
      subst ry1
      have ry2 : v = Value.bool b := ry
      subst ry2
      refine wpAny_bind (wpAny_holding (wpAny_truthy_bool (wpAny_bind (wpAny_letGo ?_))))
      cases b with
      | false =>
        simp only [Bool.false_eq_true, if_false]
        rcases p with ⟨r, ec, p⟩ | ⟨_, p⟩
        · have : (none : Option D) = some r := by
            have z : some (none : Option D) = some (some r) := ec
            exact Option.some.inj z
          cases this
        · exact wpAny_pure ⟨plainId_quiet F.plain_any_loop _, ih m (by omega) i' k' H' s' l' hk' G' st' ⟨e1, e2, _, us ++ [.bl false], S, μ, True.intro, rys.append (show RVs G μ S.n H' [D.bl false] [V.bl false] from ⟨_, _, rfl, rfl, rfl⟩), s1, p⟩ hR⟩
      | true =>
        simp only [if_true]
        rcases p with ⟨r, ec, p⟩ | ⟨ec, _⟩
        · have z : some (some (D.bl true)) = some (some r) := ec
          cases z
          exact wpAny_bind (wpAny_rule (wpAny_pure (hR true s' H' G' ((Post.here (W := W) s1.lnk p) _ rfl))))
        · have z : some (some (D.bl true)) = some none := ec
          cases z
    | _ =>
      exfalso
      rcases p with ⟨r, ec, _⟩ | ⟨ec, _⟩ <;> cases ec
theorem all_loop {Y : Cx} {A : Around} {bod : D → M (Option D)} {σ0 : L2.St} {Rr : Result → Shared → Prop} {H1 : Hp} (hh : A.handled = none) (hd : A.depth < recursionLimit) (ha : a ∈ ws) :
    ∀ (n i k : Nat) (H : Hp) (s : Shared), Live Y A.in1.in1 fp ws tn σ0 (StD G W Q bod (chkB false) (finB true) RpT ds μ1 S1 H1) (GtD G W Q bod (chkB false) (finB true) RpT ds μ1 S1 H1) (FinD G W Q (finB true) RpT μ1 S1 H1) a gi i n s → k < n → GSt Y fp ws σ0 H s → tn i s.heap → StD G W Q bod (chkB false) (finB true) RpT ds μ1 S1 H1 (vw ws s) i k H →
      (∀ b s' H', GSt Y fp ws σ0 H' s' → Q (.bl b) H' → Rr (.ok (.ret (.bool b))) s') → codeAny (model Y.prog Y.w) A (.builtin "all.loop" ⟨[.ref a], []⟩) Rr s := by
  intro n
  induction n using Nat.strongRecOn with
  | ind n ih =>
  intro i k H s l hk Gs st q hR
  refine (codeAny_builtin F.entry_all_loop) ?_
  rw [(Around.under_plainId F.plain_all_loop _)]
  show wpAny _ A.in1 (pyNext (.ref a) >>= _) _ _ s
  refine wpAny_bind (gen_next (B := A.in1.in1) rfl hh hd ha l hk Gs st q (fun s' H' G' f sm => ?_) fun m v s' i' k' H' y hn hk' ry G' st' gt sm l' => ?_)
  · obtain ⟨ys, us, S, μ, _, _, s1, p⟩ := f
    exact wpAny_bind (wpAny_rule (wpAny_pure (hR true s' H' G' ((Post.here (W := W) s1.lnk p) _ rfl))))
  · obtain ⟨e1, e2, ys, us, d, S, μ, rp, rys, rd, s1, p⟩ := gt
    cases d with
    | bl b =>
      have ry1 : y = .bl b := rd
      subst ry1
      have ry2 : v = Value.bool b := ry
      subst ry2
      refine wpAny_bind (wpAny_holding (wpAny_truthy_bool (wpAny_bind (wpAny_letGo ?_))))
      cases b with
      | true =>
        simp only [if_true]
        rcases p with ⟨r, ec, p⟩ | ⟨_, p⟩
        · have : (none : Option D) = some r := by
            have z : some (none : Option D) = some (some r) := ec
            exact Option.some.inj z
          cases this
        · exact wpAny_pure ⟨plainId_quiet F.plain_all_loop _, ih m (by omega) i' k' H' s' l' hk' G' st' ⟨e1, e2, _, us ++ [.bl true], S, μ, True.intro, rys.append (show RVs G μ S.n H' [D.bl true] [V.bl true] from ⟨_, _, rfl, rfl, rfl⟩), s1, p⟩ hR⟩
      | false =>
        simp only [Bool.false_eq_true, if_false]
        rcases p with ⟨r, ec, p⟩ | ⟨ec, _⟩
        · have z : some (some (D.bl false)) = some (some r) := ec
          cases z
          exact wpAny_bind (wpAny_rule (wpAny_pure (hR false s' H' G' ((Post.here (W := W) s1.lnk p) _ rfl))))
        · have z : some (some (D.bl false)) = some none := ec
          cases z
    | _ =>
      exfalso
      rcases p with ⟨r, ec, _⟩ | ⟨ec, _⟩ <;> cases ec
/-! ### the plumbing -/
theorem Stp.extN {T : List (Addr × Str)} {μ : Nat → Addr} {S : Sto} {H H2 : Hp} (L : Lnk G μ S H) (hT : G.T = Tabs T) (e : ExtN H H2) (t : Tabs T H2) : Stp G μ S H μ S H2 := by
  have g : Grow μ S.n H μ S.n H2 := ⟨.refl _ _, fun l h1 h2 => absurd h2 (by omega), fun b o q _ n => e b o q n, fun b od u q => e b _ q (fun _ z => by cases z), fun b o q n => ⟨o, e b o q n, n⟩⟩
  refine ⟨⟨L.inj, fun l o q => ?_, by rw [hT]; exact t, L.lk⟩, g⟩
  have h := L.ob l o q
  obtain ⟨w, hw, nt, _⟩ := h.hd
  exact h.mono g L.tf (by rw [e _ _ hw nt, hw])
def UseG (X : Cx) (G : Gx) (W : XK) (scope : Scope) (gpos : Pos) (vs : List Nat) (tg elt iter : Expr) (ifs : List Expr) (g : D → En → M En) (t : En → M Bool) (fe : En → M D) (chk : List D → D → Option (Option D)) (fin : List D → M D) (f : Value) : Prop :=
  ∀ (pins : List (Addr × Obj)) (σ : L2.St) (R : It → Hp → Prop) (a gi : Nat) (s5 s4 : Shared) (H4 : Hp) (genv : Env) (fp : List Addr) (it : Addr) (tn : Nat → Heap → Prop) (J : It) (Q : VK) (ds : List D) (μ1 : Nat → Addr) (S1 : Sto) (σd : En),
    GMk X pins σ tg elt iter ifs scope gpos vs R a s5 gi s4 H4 genv fp it tn J → At G σd S1 μ1 σ H4 → ItOk G J μ1 S1 H4 ds → Post G μ1 S1 H4 W (WQ G Q) (genL (bodG vs g t fe σd) chk fin [] ds S1) →
      wpAny (model X.prog X.w) X.A (call f [.ref a]) (EP X pins σ Q) X.xe s5
/-- what is known of the def in which a generator expression stands -/
structure GHost (X : Cx) (G : Gx) (T : List (Addr × Str)) (k : Nat) (c P : Addr) : Prop where
  room : Room (k + 1) X.A
  tb : TabB X.base X.mg c P
  code : X.env.code = .ref c
  tab : G.T = Tabs T
  mem : (P, X.env.qual ++ "<genexpr>") ∈ T
  uq : ∀ p ∈ T, p.1 = P → p.2 = X.env.qual ++ "<genexpr>"
  nd : X.N.Nodup
  calm : X.calm = true
structure GSc (X : Cx) (scope : Scope) (own : List (Str × Nat)) : Prop where
  ok : BlkOk X.N X.env.scope scope own
  nc : ∀ y ∈ scope.names, y.2 ≠ .cell
  co : scope.isCoroutine = false
  dot : scope.names.lookup (".0" : Str) = some NameKind.local
theorem gen_run {T : List (Addr × Str)} {k : Nat} {c P : Addr} {own : List (Str × Nat)} {fit : En → M (List D)} {f : Value} {s : Shared} {H : Hp} (Hh : GHost X G T k c P) (Sc : GSc X scope own) (hi : SI X G W tg iter fit) (hgf : ∀ v, genFold iter X.env v = pure v)
    (use : UseG X G W scope gpos (own.map (·.2)) tg elt iter ifs g t fe chk fin f) (I : Inv X pins σ H s) (h : rdE G W (genE fit (own.map (·.2)) g t fe chk fin) σ H Q) :
    wpAny (model X.prog X.w) X.A (eval (.GeneratorExp elt [⟨tg, iter, ifs, 0⟩] scope gpos) X.env) (fun v s5 => wpAny (model X.prog X.w) X.A (call f [v]) (EP X pins σ Q) X.xe s5) X.xe s := by
  obtain ⟨σd, S, μ, a0, p⟩ := h
  have p := Post.bind (k := fun ds => genL (bodG (own.map (·.2)) g t fe σd) chk fin [] ds) p
  have hw : rdI G W fit σ H (fun J H1 => Tabs T H1 ∧ ∀ H2, ExtN H1 H2 → Tabs T H2 → ∃ ds S1 μ1, At G σd S1 μ1 σ H2 ∧ ItOk G J μ1 S1 H2 ds ∧ Post G μ1 S1 H2 W (WQ G Q) (genL (bodG (own.map (·.2)) g t fe σd) chk fin [] ds S1)) :=
    ⟨σd, S, μ, a0, p.mono fun ds S1 μ1 H1 s1 q J ok => ⟨by rw [← Hh.tab]; exact s1.lnk.tab, fun H2 e2 t2 =>
      have st := Stp.extN s1.lnk Hh.tab e2 t2
      ⟨ds, S1, μ1, (a0.step s1).step st, fun μ' S' H' s' => ok μ' S' H' (st.trans s'), q.later st⟩⟩⟩
  refine wpAny_mono (gen_make (T := T) (k := k + 1) Hh.room Hh.tb Hh.code Hh.mem Hh.uq hi Sc.ok Hh.nd Sc.nc Sc.co Sc.dot hgf I hw) (fun v s5 hv => ?_) fun _ _ x => x
  obtain ⟨a, gi, s4, H4, genv, fp, it, tn, J, rfl, M⟩ := hv
  obtain ⟨ds, S1, μ1, a1, ok, q⟩ := M.R
  exact use pins σ _ a gi s5 s4 H4 genv fp it tn J Q ds μ1 S1 σd M a1 ok q
theorem se_genB {T : List (Addr × Str)} {k : Nat} {c P : Addr} {own : List (Str × Nat)} {fit : En → M (List D)} {x : Str} {id : String} {p pos : Pos} (Hh : GHost X G T k c P) (Sc : GSc X scope own) (hi : SI X G W tg iter fit) (use : UseG X G W scope gpos (own.map (·.2)) tg elt iter ifs g t fe chk fin (.builtin id))
    (hm : X.mg x = none) (hg : Gl X x := by rfl) (hv : bootBuiltins x = some (.builtin id) := by decide +kernel) (hn : x ≠ "__name__" := by decide) (hdb : (x == ("__debug__" : Str)) = false := by decide) (hgf : ∀ v, genFold iter X.env v = pure v := by intro _; rfl)
    (he : starEach [.GeneratorExp elt [⟨tg, iter, ifs, 0⟩] scope gpos] X.env = (false, eval (.GeneratorExp elt [⟨tg, iter, ifs, 0⟩] scope gpos) X.env) :: starEach [] X.env := by rfl) :
    SE X G W (.Call (.Name x p) [.GeneratorExp elt [⟨tg, iter, ifs, 0⟩] scope gpos] [] pos) (genE fit (own.map (·.2)) g t fe chk fin) := by
  refine ⟨fun pins s σ H Q I h => ?_⟩
  refine wpAny_Call_Name_kw (ld_blt I hg hm hv ?_ hn hdb)
  refine PyProof.Rows.callWith_builtin1 ?_ he (by rfl)
  rw [he]
  show wpAny _ _ (spliced ((false, eval (.GeneratorExp elt [⟨tg, iter, ifs, 0⟩] scope gpos) X.env) :: backTo pos (starEach [] X.env))) _ _ s
  exact Calls.spliced_cons (wpAny_mono (gen_run Hh Sc hi hgf use I h) (fun v s5 hv => Calls.spliced_nil hv) fun _ _ x => x)
theorem near_in2 (hd : X.A.handled = none) : Near X X.A.in1.in1 := ⟨hd, rfl, Nat.le_succ _, by show X.A.units + 1 + 1 ≤ _; omega⟩
theorem use_any {k : Nat} (hr : Room k X.A) (hc : X.calm = true) (hco : scope.isCoroutine = false) (pc : GPc X G scope vs tg elt ifs g t fe) : UseG X G W scope gpos vs tg elt iter ifs g t fe (chkB true) (finB false) (.builtin "any") := by
  intro pins σ R a gi s5 s4 H4 genv fp it tn J Q ds μ1 S1 σd M a1 ok q
  have hB := near_in2 (X := X) hr.hd
  refine (call_function_tree F.kind_any F.plain_any F.entry_any (F.args_any1 _)) ?_
  unfold Builtin.«any»
  refine wpAny_bind (m := oneArg "any" _) (wpAny_pure ?_)
  refine wpAny_bind (wpAny_pyIter_gen M.gen ?_)
  have Gs : GSt (gcx X X.A.in1.in1 s4 H4 genv fp) fp [a] (L2.wipe σ vs) H4 s5 := M.gst hB (h6 := s5.heap) (t6 := s5.toks) (fun _ _ e => e) fun b hb => .inl (List.mem_singleton.mp hb)
  exact wpAny_pure ⟨plainId_quiet F.plain_any_loop _, any_loop (ws := [a]) (Y := gcx X X.A.in1.in1 s4 H4 genv fp) (A := X.A) hr.hd (by have := hr.dp; omega) List.mem_cons_self (ds.length + 1) 0 ds.length H4 s5 (M.live hB hc hco pc a1 ok rfl fun _ e => e) (Nat.lt_succ_self _) Gs M.st
    (StD.first a1.lnk True.intro q) fun b s' H' G' hq => ⟨.bl b, H', M.back G', rfl, hq⟩⟩
theorem use_all {k : Nat} (hr : Room k X.A) (hc : X.calm = true) (hco : scope.isCoroutine = false) (pc : GPc X G scope vs tg elt ifs g t fe) : UseG X G W scope gpos vs tg elt iter ifs g t fe (chkB false) (finB true) (.builtin "all") := by
  intro pins σ R a gi s5 s4 H4 genv fp it tn J Q ds μ1 S1 σd M a1 ok q
  have hB := near_in2 (X := X) hr.hd
  refine (call_function_tree F.kind_all F.plain_all F.entry_all (F.args_all1 _)) ?_
  unfold Builtin.«all»
  refine wpAny_bind (m := oneArg "all" _) (wpAny_pure ?_)
  refine wpAny_bind (wpAny_pyIter_gen M.gen ?_)
  have Gs : GSt (gcx X X.A.in1.in1 s4 H4 genv fp) fp [a] (L2.wipe σ vs) H4 s5 := M.gst hB (h6 := s5.heap) (t6 := s5.toks) (fun _ _ e => e) fun b hb => .inl (List.mem_singleton.mp hb)
  exact wpAny_pure ⟨plainId_quiet F.plain_all_loop _, all_loop (ws := [a]) (Y := gcx X X.A.in1.in1 s4 H4 genv fp) (A := X.A) hr.hd (by have := hr.dp; omega) List.mem_cons_self (ds.length + 1) 0 ds.length H4 s5 (M.live hB hc hco pc a1 ok rfl fun _ e => e) (Nat.lt_succ_self _) Gs M.st
    (StD.first a1.lnk True.intro q) fun b s' H' G' hq => ⟨.bl b, H', M.back G', rfl, hq⟩⟩
end
end Fd

set_option Elab.async false
set_option linter.all false
set_option maxRecDepth 100000
set_option maxHeartbeats 1000000
namespace Fd
open PySem PySem.Spec PyProof.Rows L2 GenW LamX
/-! ### consumers that keep an object of their own -/
def dI : D → Int
  | .int i => i
  | _ => 0
def vI : V → Int
  | .int i => i
  | _ => 0
theorem vI_of {G : Gx} {μ : Nat → Addr} {n : Nat} {H : Hp} {d : D} {v : V} (r : RV G μ n H d v) : vI v = dI d := by
  cases d with
  | int i => rw [show v = .int i from r]; rfl
  | non => rw [show v = .non from r]; rfl
  | bl b => rw [show v = .bl b from r]; rfl
  | str b => rw [show v = .str b from r]; rfl
  | tup _ => obtain ⟨a, _, e, _⟩ := r; rw [e]; rfl
  | kt _ => obtain ⟨a, _, e, _⟩ := r; rw [e]; rfl
  | lst _ => obtain ⟨a, _, e, _⟩ := r; rw [e]; rfl
  | dct _ _ => obtain ⟨a, _, _, _, e, _⟩ := r; rw [e]; rfl
  | ref _ => obtain ⟨_, e⟩ := r; rw [e]; rfl
  | kl _ => obtain ⟨a, _, e, _⟩ := r; rw [e]; rfl
  | lam _ => obtain ⟨a, _, _, _, e, _⟩ := r; rw [e]; rfl
theorem vIs_of {G : Gx} {μ : Nat → Addr} {n : Nat} {H : Hp} : ∀ {ds : List D} {us : List V}, RVs G μ n H ds us → us.map vI = ds.map dI
  | [], _, h => by
    have h : _ = _ := h
    subst h; rfl
  | d :: ds, _, ⟨v, r, e, h1, h2⟩ => by
    subst e
    rw [List.map_cons, List.map_cons, vI_of h1, vIs_of h2]
/-- within a C long -/
def inLong (i : Int) : Bool := decide (-(2 ^ 63) ≤ i) && decide (i < 2 ^ 63)
def chkSum : List D → D → Option (Option D) := fun ys d => match d with
  | .int x => if (inLong x && inLong ((ys.map dI).sum + x)) = true then some none else none
  | _ => none
def finSum : List D → M D := fun ys => M.pure (.int (ys.map dI).sum)
/-- the smallest (largest) so far -/
def best (lt : Int → Int → Bool) : List Int → Option Int := fun l => l.foldl (fun o x => match o with
  | none => some x
  | some m => if lt x m = true then some x else some m) none
theorem best_snoc (lt : Int → Int → Bool) (l : List Int) (x : Int) : best lt (l ++ [x]) = match best lt l with
  | none => some x
  | some m => if lt x m = true then some x else some m := by
  unfold best
  rw [List.foldl_append]; rfl
def chkInt : List D → D → Option (Option D) := fun _ d => match d with
  | .int _ => some none
  | _ => none
def finBest (lt : Int → Int → Bool) : List D → M D := fun ys => match best lt (ys.map dI) with
  | some m => M.pure (.int m)
  | none => M.stk
def ltB : Int → Int → Bool := fun x m => decide (x < m)
def gtB : Int → Int → Bool := fun x m => decide (x > m)
abbrev lo (acc : Array Value) (c : Nat) : Obj := { cls := .type "list", dict := none, data := .seq acc c, slots := #[] }
def RpSum (S : Addr) : List V → Vw → Prop := fun us w => ∃ t c, w S = some (lo #[.int (us.map vI).sum t] c)
def RpBest (lt : Int → Int → Bool) (S : Addr) : List V → Vw → Prop := fun us w => match best lt (us.map vI) with
  | none => ∃ c, w S = some (lo #[] c)
  | some m => ∃ t c, w S = some (lo #[.int m t, .int m t] c)
def RpLst (S : Addr) : List V → Vw → Prop := fun us w => ∃ acc c, w S = some (lo acc c) ∧ us.length ≤ sizeLine ∧ Vals us acc.toList
theorem lo_inj {x y : Int} {t t' : Tok} {c c' : Nat} (h : some (lo #[Value.int x t] c) = some (lo #[Value.int y t'] c')) : x = y := by
  have h := congrArg (fun o : Option Obj => match o with
    | some { data := .seq acc _, .. } => (match acc.toList with
      | Value.int z _ :: _ => z
      | _ => 0)
    | _ => 0) h
  exact h
theorem vw_at {ws : List Addr} {s : Shared} {b : Addr} (hb : b ∈ ws) : vw ws s b = s.heap.get? b := if_pos hb
section
variable {X : Cx} {G : Gx} {W : XK} {fp : List Addr} {tn : Nat → Heap → Prop} {Q : VK} {ds : List D} {μ1 : Nat → Addr} {S1 : Sto} {H1 : Hp} {a gi : Nat} {S : Addr} {Y : Cx} {A : Around} {bod : D → M (Option D)} {σ0 : L2.St} {Rr : Result → Shared → Prop}
theorem sum_loop (hpn : Y.pn = []) (hh : A.handled = none) (hd : A.depth < recursionLimit) (hSa : S ≠ a) :
    ∀ (n i k : Nat) (H : Hp) (s : Shared), Live Y A.in1.in1 fp [a, S] tn σ0 (StD G W Q bod chkSum finSum (RpSum S) ds μ1 S1 H1) (GtD G W Q bod chkSum finSum (RpSum S) ds μ1 S1 H1) (FinD G W Q finSum (RpSum S) μ1 S1 H1) a gi i n s → k < n → GSt Y fp [a, S] σ0 H s → tn i s.heap → (∀ i h h', tn i h → (∀ b ∈ fp, ∀ o, h.get? b = some o → h'.get? b = some o) → tn i h') → StD G W Q bod chkSum finSum (RpSum S) ds μ1 S1 H1 (vw [a, S] s) i k H →
      (∀ m t s' H', GSt Y fp [a, S] σ0 H' s' → Q (.int m) H' → Rr (.ok (.ret (.int m t))) s') → codeAny (model Y.prog Y.w) A (.builtin "sum.loop" ⟨[.ref a, .ref S, rawInt 0, rawInt 0], []⟩) Rr s := by
  have hSm : S ∈ [a, S] := by simp
  intro n
  induction n using Nat.strongRecOn with
  | ind n ih =>
  intro i k H s l hk Gs st keep q hR
  refine (codeAny_builtin F.entry_sum_loop) ?_
  rw [(Around.under_plainId F.plain_sum_loop _)]
  show wpAny _ A.in1 (seqItems? (.ref S) >>= _) _ _ s
  obtain ⟨q1, q2, ys0, us0, S0, μ0, ⟨t0, c0, e0⟩, q3⟩ := id q
  rw [vw_at hSm] at e0
  refine wpAny_bind ((wpAny_seqItems e0 rfl) ?_)
  show wpAny _ A.in1 (tryCatch (pyNext (.ref a)) _ >>= _) _ _ s
  refine wpAny_bind (wpAny_tryCatch (gen_next (B := A.in1.in1) rfl hh hd (by simp) l hk Gs st q (fun s' H' G' f sm => ?_) fun m v s' i' k' H' y hn hk' ry G' st' gt sm l' => ?_))
  · obtain ⟨ys, us, S2, μ, ⟨t, c, e⟩, rys, s1, p⟩ := f
    rw [vw_at hSm, sm S hSm _ e0] at e
    refine wpAny_pure (hR _ _ s' H' G' ?_)
    have hz := (Post.here (W := W) s1.lnk p) (.int (us.map vI).sum) (by show _ = _; rw [vIs_of rys])
    rw [← lo_inj e] at hz
    exact hz
  · obtain ⟨e1, e2, ys, us, d, S2, μ, ⟨t, c, e⟩, rys, rd, s1, p⟩ := gt
    rw [vw_at hSm] at e
    have eS := e
    rw [sm S hSm _ e0] at e
    have hsum := lo_inj e
    rcases p with ⟨r, ec, p⟩ | ⟨ec, p⟩
    · unfold chkSum at ec
      cases d <;> first | (cases ec; done) | skip
      dsimp only at ec
      split at ec <;> cases ec
    cases d with
    | int x =>
      have ry1 : y = .int x := rd
      subst ry1
      obtain ⟨tx, rfl⟩ := (show ∃ t, v = Value.int x t from ry)
      have hc : (inLong x && inLong ((ys.map dI).sum + x)) = true := by
        unfold chkSum at ec
        dsimp only at ec
        split at ec
        · assumption
        · cases ec
      have hc' : ((decide (-(2 ^ 63) ≤ x) && decide (x < 2 ^ 63)) && (decide (-(2 ^ 63) ≤ (us0.map vI).sum + x) && decide ((us0.map vI).sum + x < 2 ^ 63))) = true := by
        rw [hsum, vIs_of rys]
        exact hc
      show wpAny _ A.in1 (if (_ : Bool) = true then (mkInt ((us0.map vI).sum + x) >>= _) else _) _ _ _
      split
      · refine wpAny_bind (wpAny_mkInt ?_)
        show wpAny _ A.in1 (updateSeq S (fun _ => #[.int ((us0.map vI).sum + x) s'.toks]) >>= _) _ _ _
        have eS0 := sm S hSm _ e0
        have upS := Heap.get?_update_self (Obj.mapSeq (fun _ => (#[.int ((us0.map vI).sum + x) s'.toks] : Array Value))) eS0 rfl
        have upX : ∃ c, (s'.heap.update S (Obj.mapSeq (fun _ => (#[.int ((us0.map vI).sum + x) s'.toks] : Array Value)))).get? S = some (lo #[.int ((us0.map vI).sum + x) s'.toks] c) := ⟨_, upS⟩
        obtain ⟨c9, upX⟩ := upX
        have oth : ∀ b o, b ≠ S → s'.heap.get? b = some o → (s'.heap.update S (Obj.mapSeq (fun _ => (#[.int ((us0.map vI).sum + x) s'.toks] : Array Value)))).get? b = some o := fun b o hb e => (Heap.get?_update_other _ _ (Ne.symm hb)).trans e
        refine wpAny_bind (wpAny_updateSeq eS0 rfl ?_)
        refine wpAny_pure ⟨plainId_quiet F.plain_sum_loop _, ?_⟩
        have G2 : GSt Y fp [a, S] σ0 H' { s' with heap := s'.heap.update S (Obj.mapSeq (fun _ => (#[.int ((us0.map vI).sum + x) s'.toks] : Array Value))), toks := s'.toks + 1 } := G'.turn hpn hSm oth ⟨_, upS, fun v e => by cases e⟩
        refine ih m (by omega) i' k' H' _ (l'.mono' rfl fun o e => oth a o (Ne.symm hSa) e) hk' G2 (keep _ _ _ st' fun b hb o e => oth b o (fun z => (G'.wsn S hSm).2.2.2.1 (by rw [← z]; exact hb)) e) keep ⟨e1, e2, _, us ++ [.int x], S2, μ, ⟨s'.toks, c9, ?_⟩, rys.append (show RVs G μ S2.n H' [D.int x] [V.int x] from ⟨_, _, rfl, rfl, rfl⟩), s1, p⟩ hR
        rw [vw_at hSm]
        have e9 : ((us ++ [V.int x]).map vI).sum = (us0.map vI).sum + x := by
          rw [List.map_append, List.sum_append, hsum]
          simp [vI]
        rw [e9]
        exact upX
      · rename_i hneg
        exact absurd hc' hneg
    | _ => cases ec
end
end Fd

set_option Elab.async false
set_option linter.all false
set_option maxRecDepth 100000
set_option maxHeartbeats 1000000
namespace Fd
open PySem PySem.Spec PyProof.Rows L2 GenW LamX
theorem lo_len {u v : Value} {c c' : Nat} (h : some (lo #[] c) = some (lo #[u, v] c')) : False := by
  have h := congrArg (fun o : Option Obj => match o with
    | some { data := .seq acc _, .. } => acc.toList.length
    | _ => 0) h
  have h : (0 : Nat) = 2 := h
  cases h
theorem lo_inj2 {x y : Int} {t t' u u' : Tok} {c c' : Nat} (h : some (lo #[Value.int x t, Value.int x u] c) = some (lo #[Value.int y t', Value.int y u'] c')) : x = y := by
  have h := congrArg (fun o : Option Obj => match o with
    | some { data := .seq acc _, .. } => (match acc.toList with
      | Value.int z _ :: _ => z
      | _ => 0)
    | _ => 0) h
  exact h
theorem cmpLt {prog : Program} {w : World} {A : Around} {E : Value → Shared → Prop} {s : Shared} {Q : Value → Shared → Prop} (x y : Int) (t u : Tok) (h : Q (.bool (decide (x < y))) s) : wpAny (model prog w) A (richCompare .Lt (.int x t) (.int y u)) Q E s :=
  CmpOf.ints_lt (P := fun i v => ∃ t, v = .int (if i = 0 then x else y) t) (fun i => if i = 0 then x else y) (fun _ _ h => h) 0 1 _ _ s Q E ⟨t, rfl⟩ ⟨u, rfl⟩ h
theorem cmpGt {prog : Program} {w : World} {A : Around} {E : Value → Shared → Prop} {s : Shared} {Q : Value → Shared → Prop} (x y : Int) (t u : Tok) (h : Q (.bool (decide (x > y))) s) : wpAny (model prog w) A (richCompare .Gt (.int x t) (.int y u)) Q E s :=
  CmpOf.ints_gt (P := fun i v => ∃ t, v = .int (if i = 0 then x else y) t) (fun i => if i = 0 then x else y) (fun _ _ h => h) 0 1 _ _ s Q E ⟨t, rfl⟩ ⟨u, rfl⟩ h
section
variable {X : Cx} {G : Gx} {W : XK} {fp : List Addr} {tn : Nat → Heap → Prop} {Q : VK} {ds : List D} {μ1 : Nat → Addr} {S1 : Sto} {H1 : Hp} {a gi : Nat} {S : Addr} {Y : Cx} {A : Around} {bod : D → M (Option D)} {σ0 : L2.St} {Rr : Result → Shared → Prop}
theorem min_loop (hpn : Y.pn = []) (hh : A.handled = none) (hd : A.depth < recursionLimit) (hSa : S ≠ a) :
    ∀ (n i k : Nat) (H : Hp) (s : Shared), Live Y A.in1.in1 fp [a, S] tn σ0 (StD G W Q bod chkInt (finBest ltB) (RpBest ltB S) ds μ1 S1 H1) (GtD G W Q bod chkInt (finBest ltB) (RpBest ltB S) ds μ1 S1 H1) (FinD G W Q (finBest ltB) (RpBest ltB S) μ1 S1 H1) a gi i n s → k < n → GSt Y fp [a, S] σ0 H s → tn i s.heap → (∀ i h h', tn i h → (∀ b ∈ fp, ∀ o, h.get? b = some o → h'.get? b = some o) → tn i h') → StD G W Q bod chkInt (finBest ltB) (RpBest ltB S) ds μ1 S1 H1 (vw [a, S] s) i k H →
      (∀ m t s' H', GSt Y fp [a, S] σ0 H' s' → Q (.int m) H' → Rr (.ok (.ret (.int m t))) s') → codeAny (model Y.prog Y.w) A (.builtin "min.loop" ⟨[.ref a, .none, .ref S], []⟩) Rr s := by
  have hSm : S ∈ [a, S] := by simp
  have hname : (toString "min" ++ toString ".loop" : String) = "min.loop" := by decide
  intro n
  induction n using Nat.strongRecOn with
  | ind n ih =>
  intro i k H s l hk Gs st keep q hR
  refine (codeAny_builtin F.entry_min_loop) ?_
  rw [(Around.under_plainId F.plain_min_loop _)]
  show wpAny _ A.in1 (seqItems? (.ref S) >>= _) _ _ s
  obtain ⟨q1, q2, ys0, us0, S0, μ0, rp0, q3⟩ := id q
  unfold RpBest at rp0
  rw [vw_at hSm] at rp0
  -- the next state, whatever the object now is
  have go : ∀ (m : Nat) (i' k' : Nat) (H' : Hp) (s' : Shared) (x : Int) (tx : Tok) (f : Obj → Obj) (ys : List D) (us : List V) (S2 : Sto) (μ : Nat → Addr), n = m + 1 → k' < m → GSt Y fp [a, S] σ0 H' s' → tn i' s'.heap → Live Y A.in1.in1 fp [a, S] tn σ0 (StD G W Q bod chkInt (finBest ltB) (RpBest ltB S) ds μ1 S1 H1) (GtD G W Q bod chkInt (finBest ltB) (RpBest ltB S) ds μ1 S1 H1) (FinD G W Q (finBest ltB) (RpBest ltB S) μ1 S1 H1) a gi i' m s' →
      k' = ds.length - i' → i' ≤ ds.length → RVs G μ S2.n H' ys us → Stp G μ1 S1 H1 μ S2 H' → Post G μ S2 H' W (WQ G Q) (genL bod chkInt (finBest ltB) (ys ++ [.int x]) (ds.drop i') S2) →
      (∃ mm t c, best ltB ((us ++ [V.int x]).map vI) = some mm ∧ (s'.heap.update S f).get? S = some (lo #[Value.int mm t, Value.int mm t] c)) → codeAny (model Y.prog Y.w) A (.builtin "min.loop" ⟨[.ref a, .none, .ref S], []⟩) Rr { s' with heap := s'.heap.update S f } := by
    rintro m i' k' H' s' x tx f ys us S2 μ hn hk' G' st' l' e1 e2 rys s1 p ⟨mm, t, c, eb, eo⟩
    have oth : ∀ b o, b ≠ S → s'.heap.get? b = some o → (s'.heap.update S f).get? b = some o := fun b o hb e => (Heap.get?_update_other _ _ (Ne.symm hb)).trans e
    have G2 : GSt Y fp [a, S] σ0 H' { s' with heap := s'.heap.update S f } := G'.turn (t' := s'.toks) hpn hSm oth ⟨_, eo, fun v e => by cases e⟩
    refine ih m (by omega) i' k' H' _ (l'.mono' rfl fun o e => oth a o (Ne.symm hSa) e) hk' G2 (keep _ _ _ st' fun b hb o e => oth b o (fun z => (G'.wsn S hSm).2.2.2.1 (by rw [← z]; exact hb)) e) keep ⟨e1, e2, _, us ++ [.int x], S2, μ, ?_, rys.append (show RVs G μ S2.n H' [D.int x] [V.int x] from ⟨_, _, rfl, rfl, rfl⟩), s1, p⟩ hR
    unfold RpBest
    rw [eb, vw_at hSm]
    exact ⟨t, c, eo⟩
  cases hb : best ltB (us0.map vI) with
  | none =>
    rw [hb] at rp0
    obtain ⟨c0, e0⟩ := rp0
    refine wpAny_bind ((wpAny_seqItems e0 rfl) ?_)
    show wpAny _ A.in1 (tryCatch (pyNext (.ref a)) _ >>= _) _ _ s
    refine wpAny_bind (wpAny_tryCatch (gen_next (B := A.in1.in1) rfl hh hd (by simp) l hk Gs st q (fun s' H' G' f sm => ?_) fun m v s' i' k' H' y hn hk' ry G' st' gt sm l' => ?_))
    · exfalso
      obtain ⟨ys, us, S2, μ, rp, rys, s1, p⟩ := f
      unfold RpBest at rp
      rw [vw_at hSm, sm S hSm _ e0] at rp
      unfold finBest at p
      rw [← vIs_of rys] at p
      cases h2 : best ltB (us.map vI) with
      | none => rw [h2] at p; exact p.elim
      | some mm =>
        rw [h2] at rp
        obtain ⟨t, c, e⟩ := rp
        exact lo_len e
    · obtain ⟨e1, e2, ys, us, d, S2, μ, rp, rys, rd, s1, p⟩ := gt
      unfold RpBest at rp
      have eS0 := sm S hSm _ e0
      rw [vw_at hSm, eS0] at rp
      have hx : ∃ x, d = .int x := by
        cases d <;> first | exact ⟨_, rfl⟩ | (rcases p with ⟨r, h, _⟩ | ⟨h, _⟩ <;> cases h)
      obtain ⟨x, rfl⟩ := hx
      have p : Post G μ S2 H' W (WQ G Q) (genL bod chkInt (finBest ltB) (ys ++ [.int x]) (ds.drop i') S2) := by
        rcases p with ⟨r, h, _⟩ | ⟨_, p⟩
        · cases h
        · exact p
      have ry1 : y = .int x := rd
      subst ry1
      obtain ⟨tx, rfl⟩ := (show ∃ t, v = Value.int x t from ry)
      have hb2 : best ltB (us.map vI) = none := by
        cases h2 : best ltB (us.map vI) with
        | none => rfl
        | some mm =>
          rw [h2] at rp
          obtain ⟨t, c, e⟩ := rp
          exact (lo_len e).elim
      show wpAny _ A.in1 (updateSeq S (fun _ => #[.int x tx, .int x tx]) >>= _) _ _ _
      refine wpAny_bind (wpAny_updateSeq eS0 rfl ?_)
      rw [hname]
      refine wpAny_pure ⟨plainId_quiet F.plain_min_loop _, go m i' k' H' s' x tx _ ys us S2 μ hn hk' G' st' l' e1 e2 rys s1 p ⟨x, tx, _, ?_, Heap.get?_update_self _ eS0 rfl⟩⟩
      rw [List.map_append]
      show best ltB (us.map vI ++ [x]) = _
      rw [best_snoc, hb2]
  | some m0 =>
    rw [hb] at rp0
    obtain ⟨t0, c0, e0⟩ := rp0
    refine wpAny_bind ((wpAny_seqItems e0 rfl) ?_)
    show wpAny _ A.in1 (tryCatch (pyNext (.ref a)) _ >>= _) _ _ s
    refine wpAny_bind (wpAny_tryCatch (gen_next (B := A.in1.in1) rfl hh hd (by simp) l hk Gs st q (fun s' H' G' f sm => ?_) fun m v s' i' k' H' y hn hk' ry G' st' gt sm l' => ?_))
    · obtain ⟨ys, us, S2, μ, rp, rys, s1, p⟩ := f
      have eS0 := sm S hSm _ e0
      unfold RpBest at rp
      rw [vw_at hSm, eS0] at rp
      show wpAny _ A.in1 (updateSeq S (fun _ => #[]) >>= _) _ _ _
      refine wpAny_bind (wpAny_updateSeq eS0 rfl (wpAny_bind (wpAny_letGo (wpAny_pure ?_))))
      have oth : ∀ b o, b ≠ S → s'.heap.get? b = some o → (s'.heap.update S (Obj.mapSeq (fun _ => (#[] : Array Value)))).get? b = some o := fun b o hb e => (Heap.get?_update_other _ _ (Ne.symm hb)).trans e
      refine hR m0 t0 _ H' (G'.turn (t' := s'.toks) hpn hSm oth ⟨_, Heap.get?_update_self _ eS0 rfl, fun v e => by cases e⟩) ?_
      unfold finBest at p
      rw [← vIs_of rys] at p
      cases h2 : best ltB (us.map vI) with
      | none =>
        rw [h2] at rp
        obtain ⟨c, e⟩ := rp
        exact (lo_len e.symm).elim
      | some mm =>
        rw [h2] at rp p
        obtain ⟨t, c, e⟩ := rp
        rw [lo_inj2 e]
        exact (Post.here (W := W) s1.lnk p) _ rfl
    · obtain ⟨e1, e2, ys, us, d, S2, μ, rp, rys, rd, s1, p⟩ := gt
      unfold RpBest at rp
      have eS0 := sm S hSm _ e0
      rw [vw_at hSm, eS0] at rp
      have hx : ∃ x, d = .int x := by
        cases d <;> first | exact ⟨_, rfl⟩ | (rcases p with ⟨r, h, _⟩ | ⟨h, _⟩ <;> cases h)
      obtain ⟨x, rfl⟩ := hx
      have p : Post G μ S2 H' W (WQ G Q) (genL bod chkInt (finBest ltB) (ys ++ [.int x]) (ds.drop i') S2) := by
        rcases p with ⟨r, h, _⟩ | ⟨_, p⟩
        · cases h
        · exact p
      have ry1 : y = .int x := rd
      subst ry1
      obtain ⟨tx, rfl⟩ := (show ∃ t, v = Value.int x t from ry)
      have hb2 : best ltB (us.map vI) = some m0 := by
        cases h2 : best ltB (us.map vI) with
        | none =>
          rw [h2] at rp
          obtain ⟨c, e⟩ := rp
          exact (lo_len e.symm).elim
        | some mm =>
          rw [h2] at rp
          obtain ⟨t, c, e⟩ := rp
          rw [lo_inj2 e]
      have hb3 : best ltB ((us ++ [V.int x]).map vI) = if ltB x m0 = true then some x else some m0 := by
        rw [List.map_append]
        show best ltB (us.map vI ++ [x]) = _
        rw [best_snoc, hb2]
      show wpAny _ A.in1 (tryCatch (holding [.int x tx, .int x tx] (richCompare .Lt (.int x tx) (.int m0 t0) >>= _)) _ >>= _) _ _ _
      refine wpAny_bind (wpAny_tryCatch (wpAny_holding (wpAny_bind (cmpLt x m0 tx t0 ?_))))
      refine wpAny_bind (wpAny_holding (wpAny_truthy_bool ?_))
      refine wpAny_bind (wpAny_letGo (wpAny_pure ?_))
      cases hbt : ltB x m0 with
      | true =>
        rw [hbt] at hb3
        have hbt' : decide (x < m0) = true := hbt
        simp only [hbt', if_true]
        refine wpAny_bind ?_
        refine wpAny_updateSeq eS0 rfl (wpAny_bind (wpAny_letGo ?_))
        rw [hname]
        exact wpAny_pure ⟨plainId_quiet F.plain_min_loop _, go m i' k' H' s' x tx _ ys us S2 μ hn hk' G' st' l' e1 e2 rys s1 p ⟨x, tx, _, hb3, Heap.get?_update_self _ eS0 rfl⟩⟩
      | false =>
        rw [hbt] at hb3
        have hbt' : decide (x < m0) = false := hbt
        simp only [hbt', Bool.false_eq_true, if_false]
        refine wpAny_bind (wpAny_letGo ?_)
        rw [hname]
        refine wpAny_pure ⟨plainId_quiet F.plain_min_loop _, ih m (by omega) i' k' H' s' l' hk' G' st' keep ⟨e1, e2, _, us ++ [.int x], S2, μ, ?_, rys.append (show RVs G μ S2.n H' [D.int x] [V.int x] from ⟨_, _, rfl, rfl, rfl⟩), s1, p⟩ hR⟩
        unfold RpBest
        rw [hb3]
        show ∃ t c, _
        rw [vw_at hSm, eS0]
        exact ⟨t0, c0, rfl⟩
theorem max_loop (hpn : Y.pn = []) (hh : A.handled = none) (hd : A.depth < recursionLimit) (hSa : S ≠ a) :
    ∀ (n i k : Nat) (H : Hp) (s : Shared), Live Y A.in1.in1 fp [a, S] tn σ0 (StD G W Q bod chkInt (finBest gtB) (RpBest gtB S) ds μ1 S1 H1) (GtD G W Q bod chkInt (finBest gtB) (RpBest gtB S) ds μ1 S1 H1) (FinD G W Q (finBest gtB) (RpBest gtB S) μ1 S1 H1) a gi i n s → k < n → GSt Y fp [a, S] σ0 H s → tn i s.heap → (∀ i h h', tn i h → (∀ b ∈ fp, ∀ o, h.get? b = some o → h'.get? b = some o) → tn i h') → StD G W Q bod chkInt (finBest gtB) (RpBest gtB S) ds μ1 S1 H1 (vw [a, S] s) i k H →
      (∀ m t s' H', GSt Y fp [a, S] σ0 H' s' → Q (.int m) H' → Rr (.ok (.ret (.int m t))) s') → codeAny (model Y.prog Y.w) A (.builtin "max.loop" ⟨[.ref a, .none, .ref S], []⟩) Rr s := by
  have hSm : S ∈ [a, S] := by simp
  have hname : (toString "max" ++ toString ".loop" : String) = "max.loop" := by decide
  intro n
  induction n using Nat.strongRecOn with
  | ind n ih =>
  intro i k H s l hk Gs st keep q hR
  refine (codeAny_builtin F.entry_max_loop) ?_
  rw [(Around.under_plainId F.plain_max_loop _)]
  show wpAny _ A.in1 (seqItems? (.ref S) >>= _) _ _ s
  obtain ⟨q1, q2, ys0, us0, S0, μ0, rp0, q3⟩ := id q
  unfold RpBest at rp0
  rw [vw_at hSm] at rp0
  -- the next state, whatever the object now is
  have go : ∀ (m : Nat) (i' k' : Nat) (H' : Hp) (s' : Shared) (x : Int) (tx : Tok) (f : Obj → Obj) (ys : List D) (us : List V) (S2 : Sto) (μ : Nat → Addr), n = m + 1 → k' < m → GSt Y fp [a, S] σ0 H' s' → tn i' s'.heap → Live Y A.in1.in1 fp [a, S] tn σ0 (StD G W Q bod chkInt (finBest gtB) (RpBest gtB S) ds μ1 S1 H1) (GtD G W Q bod chkInt (finBest gtB) (RpBest gtB S) ds μ1 S1 H1) (FinD G W Q (finBest gtB) (RpBest gtB S) μ1 S1 H1) a gi i' m s' →
      k' = ds.length - i' → i' ≤ ds.length → RVs G μ S2.n H' ys us → Stp G μ1 S1 H1 μ S2 H' → Post G μ S2 H' W (WQ G Q) (genL bod chkInt (finBest gtB) (ys ++ [.int x]) (ds.drop i') S2) →
      (∃ mm t c, best gtB ((us ++ [V.int x]).map vI) = some mm ∧ (s'.heap.update S f).get? S = some (lo #[Value.int mm t, Value.int mm t] c)) → codeAny (model Y.prog Y.w) A (.builtin "max.loop" ⟨[.ref a, .none, .ref S], []⟩) Rr { s' with heap := s'.heap.update S f } := by
    rintro m i' k' H' s' x tx f ys us S2 μ hn hk' G' st' l' e1 e2 rys s1 p ⟨mm, t, c, eb, eo⟩
    have oth : ∀ b o, b ≠ S → s'.heap.get? b = some o → (s'.heap.update S f).get? b = some o := fun b o hb e => (Heap.get?_update_other _ _ (Ne.symm hb)).trans e
    have G2 : GSt Y fp [a, S] σ0 H' { s' with heap := s'.heap.update S f } := G'.turn (t' := s'.toks) hpn hSm oth ⟨_, eo, fun v e => by cases e⟩
    refine ih m (by omega) i' k' H' _ (l'.mono' rfl fun o e => oth a o (Ne.symm hSa) e) hk' G2 (keep _ _ _ st' fun b hb o e => oth b o (fun z => (G'.wsn S hSm).2.2.2.1 (by rw [← z]; exact hb)) e) keep ⟨e1, e2, _, us ++ [.int x], S2, μ, ?_, rys.append (show RVs G μ S2.n H' [D.int x] [V.int x] from ⟨_, _, rfl, rfl, rfl⟩), s1, p⟩ hR
    unfold RpBest
    rw [eb, vw_at hSm]
    exact ⟨t, c, eo⟩
  cases hb : best gtB (us0.map vI) with
  | none =>
    rw [hb] at rp0
    obtain ⟨c0, e0⟩ := rp0
    refine wpAny_bind ((wpAny_seqItems e0 rfl) ?_)
    show wpAny _ A.in1 (tryCatch (pyNext (.ref a)) _ >>= _) _ _ s
    refine wpAny_bind (wpAny_tryCatch (gen_next (B := A.in1.in1) rfl hh hd (by simp) l hk Gs st q (fun s' H' G' f sm => ?_) fun m v s' i' k' H' y hn hk' ry G' st' gt sm l' => ?_))
    · exfalso
      obtain ⟨ys, us, S2, μ, rp, rys, s1, p⟩ := f
      unfold RpBest at rp
      rw [vw_at hSm, sm S hSm _ e0] at rp
      unfold finBest at p
      rw [← vIs_of rys] at p
      cases h2 : best gtB (us.map vI) with
      | none => rw [h2] at p; exact p.elim
      | some mm =>
        rw [h2] at rp
        obtain ⟨t, c, e⟩ := rp
        exact lo_len e
    · obtain ⟨e1, e2, ys, us, d, S2, μ, rp, rys, rd, s1, p⟩ := gt
      unfold RpBest at rp
      have eS0 := sm S hSm _ e0
      rw [vw_at hSm, eS0] at rp
      have hx : ∃ x, d = .int x := by
        cases d <;> first | exact ⟨_, rfl⟩ | (rcases p with ⟨r, h, _⟩ | ⟨h, _⟩ <;> cases h)
      obtain ⟨x, rfl⟩ := hx
      have p : Post G μ S2 H' W (WQ G Q) (genL bod chkInt (finBest gtB) (ys ++ [.int x]) (ds.drop i') S2) := by
        rcases p with ⟨r, h, _⟩ | ⟨_, p⟩
        · cases h
        · exact p
      have ry1 : y = .int x := rd
      subst ry1
      obtain ⟨tx, rfl⟩ := (show ∃ t, v = Value.int x t from ry)
      have hb2 : best gtB (us.map vI) = none := by
        cases h2 : best gtB (us.map vI) with
        | none => rfl
        | some mm =>
          rw [h2] at rp
          obtain ⟨t, c, e⟩ := rp
          exact (lo_len e).elim
      show wpAny _ A.in1 (updateSeq S (fun _ => #[.int x tx, .int x tx]) >>= _) _ _ _
      refine wpAny_bind (wpAny_updateSeq eS0 rfl ?_)
      rw [hname]
      refine wpAny_pure ⟨plainId_quiet F.plain_max_loop _, go m i' k' H' s' x tx _ ys us S2 μ hn hk' G' st' l' e1 e2 rys s1 p ⟨x, tx, _, ?_, Heap.get?_update_self _ eS0 rfl⟩⟩
      rw [List.map_append]
      show best gtB (us.map vI ++ [x]) = _
      rw [best_snoc, hb2]
  | some m0 =>
    rw [hb] at rp0
    obtain ⟨t0, c0, e0⟩ := rp0
    refine wpAny_bind ((wpAny_seqItems e0 rfl) ?_)
    show wpAny _ A.in1 (tryCatch (pyNext (.ref a)) _ >>= _) _ _ s
    refine wpAny_bind (wpAny_tryCatch (gen_next (B := A.in1.in1) rfl hh hd (by simp) l hk Gs st q (fun s' H' G' f sm => ?_) fun m v s' i' k' H' y hn hk' ry G' st' gt sm l' => ?_))
    · obtain ⟨ys, us, S2, μ, rp, rys, s1, p⟩ := f
      have eS0 := sm S hSm _ e0
      unfold RpBest at rp
      rw [vw_at hSm, eS0] at rp
      show wpAny _ A.in1 (updateSeq S (fun _ => #[]) >>= _) _ _ _
      refine wpAny_bind (wpAny_updateSeq eS0 rfl (wpAny_bind (wpAny_letGo (wpAny_pure ?_))))
      have oth : ∀ b o, b ≠ S → s'.heap.get? b = some o → (s'.heap.update S (Obj.mapSeq (fun _ => (#[] : Array Value)))).get? b = some o := fun b o hb e => (Heap.get?_update_other _ _ (Ne.symm hb)).trans e
      refine hR m0 t0 _ H' (G'.turn (t' := s'.toks) hpn hSm oth ⟨_, Heap.get?_update_self _ eS0 rfl, fun v e => by cases e⟩) ?_
      unfold finBest at p
      rw [← vIs_of rys] at p
      cases h2 : best gtB (us.map vI) with
      | none =>
        rw [h2] at rp
        obtain ⟨c, e⟩ := rp
        exact (lo_len e.symm).elim
      | some mm =>
        rw [h2] at rp p
        obtain ⟨t, c, e⟩ := rp
        rw [lo_inj2 e]
        exact (Post.here (W := W) s1.lnk p) _ rfl
    · obtain ⟨e1, e2, ys, us, d, S2, μ, rp, rys, rd, s1, p⟩ := gt
      unfold RpBest at rp
      have eS0 := sm S hSm _ e0
      rw [vw_at hSm, eS0] at rp
      have hx : ∃ x, d = .int x := by
        cases d <;> first | exact ⟨_, rfl⟩ | (rcases p with ⟨r, h, _⟩ | ⟨h, _⟩ <;> cases h)
      obtain ⟨x, rfl⟩ := hx
      have p : Post G μ S2 H' W (WQ G Q) (genL bod chkInt (finBest gtB) (ys ++ [.int x]) (ds.drop i') S2) := by
        rcases p with ⟨r, h, _⟩ | ⟨_, p⟩
        · cases h
        · exact p
      have ry1 : y = .int x := rd
      subst ry1
      obtain ⟨tx, rfl⟩ := (show ∃ t, v = Value.int x t from ry)
      have hb2 : best gtB (us.map vI) = some m0 := by
        cases h2 : best gtB (us.map vI) with
        | none =>
          rw [h2] at rp
          obtain ⟨c, e⟩ := rp
          exact (lo_len e.symm).elim
        | some mm =>
          rw [h2] at rp
          obtain ⟨t, c, e⟩ := rp
          rw [lo_inj2 e]
      have hb3 : best gtB ((us ++ [V.int x]).map vI) = if gtB x m0 = true then some x else some m0 := by
        rw [List.map_append]
        show best gtB (us.map vI ++ [x]) = _
        rw [best_snoc, hb2]
      show wpAny _ A.in1 (tryCatch (holding [.int x tx, .int x tx] (richCompare .Gt (.int x tx) (.int m0 t0) >>= _)) _ >>= _) _ _ _
      refine wpAny_bind (wpAny_tryCatch (wpAny_holding (wpAny_bind (cmpGt x m0 tx t0 ?_))))
      refine wpAny_bind (wpAny_holding (wpAny_truthy_bool ?_))
      refine wpAny_bind (wpAny_letGo (wpAny_pure ?_))
      cases hbt : gtB x m0 with
      | true =>
        rw [hbt] at hb3
        have hbt' : decide (x > m0) = true := hbt
        simp only [hbt', if_true]
        refine wpAny_bind ?_
        refine wpAny_updateSeq eS0 rfl (wpAny_bind (wpAny_letGo ?_))
        rw [hname]
        exact wpAny_pure ⟨plainId_quiet F.plain_max_loop _, go m i' k' H' s' x tx _ ys us S2 μ hn hk' G' st' l' e1 e2 rys s1 p ⟨x, tx, _, hb3, Heap.get?_update_self _ eS0 rfl⟩⟩
      | false =>
        rw [hbt] at hb3
        have hbt' : decide (x > m0) = false := hbt
        simp only [hbt', Bool.false_eq_true, if_false]
        refine wpAny_bind (wpAny_letGo ?_)
        rw [hname]
        refine wpAny_pure ⟨plainId_quiet F.plain_max_loop _, ih m (by omega) i' k' H' s' l' hk' G' st' keep ⟨e1, e2, _, us ++ [.int x], S2, μ, ?_, rys.append (show RVs G μ S2.n H' [D.int x] [V.int x] from ⟨_, _, rfl, rfl, rfl⟩), s1, p⟩ hR⟩
        unfold RpBest
        rw [hb3]
        show ∃ t c, _
        rw [vw_at hSm, eS0]
        exact ⟨t0, c0, rfl⟩
end
end Fd

set_option Elab.async false
set_option linter.all false
set_option maxRecDepth 100000
set_option maxHeartbeats 1000000
namespace Fd
open PySem PySem.Spec PyProof.Rows L2 GenW LamX
section
variable {X : Cx} {G : Gx} {W : XK} {fp : List Addr} {tn : Nat → Heap → Prop} {Q : VK} {ds : List D} {μ1 : Nat → Addr} {S1 : Sto} {H1 : Hp} {a gi : Nat} {S : Addr} {Y : Cx} {A : Around} {bod : D → M (Option D)} {σ0 : L2.St} {Rr : Result → Shared → Prop}
/-- any value may be put behind the list -/
def chkAll : List D → D → Option (Option D) := fun ys _ => if ys.length < sizeLine then some none else none
variable {fin : List D → M D}
theorem ext_loop (hpn : Y.pn = []) (hh : A.handled = none) (hd : A.depth < recursionLimit) (hSa : S ≠ a) (res : Value) :
    ∀ (n i k : Nat) (H : Hp) (s : Shared), Live Y A.in1.in1 fp [a, S] tn σ0 (StD G W Q bod chkAll fin (RpLst S) ds μ1 S1 H1) (GtD G W Q bod chkAll fin (RpLst S) ds μ1 S1 H1) (FinD G W Q fin (RpLst S) μ1 S1 H1) a gi i n s → k < n → GSt Y fp [a, S] σ0 H s → tn i s.heap → (∀ i h h', tn i h → (∀ b ∈ fp, ∀ o, h.get? b = some o → h'.get? b = some o) → tn i h') → StD G W Q bod chkAll fin (RpLst S) ds μ1 S1 H1 (vw [a, S] s) i k H →
      (∀ acc c s' H', GSt Y fp [a, S] σ0 H' s' → s'.heap.get? S = some (lo acc c) → (∃ ys us S2 μ, us.length ≤ sizeLine ∧ Vals us acc.toList ∧ RVs G μ S2.n H' ys us ∧ Stp G μ1 S1 H1 μ S2 H' ∧ Post G μ S2 H' W (WQ G Q) (fin ys S2)) → Rr (.ok (.ret res)) s') → codeAny (model Y.prog Y.w) A (.builtin "list.extend.loop" ⟨[.ref S, .ref a, res], []⟩) Rr s := by
  have hSm : S ∈ [a, S] := by simp
  intro n
  induction n using Nat.strongRecOn with
  | ind n ih =>
  intro i k H s l hk Gs st keep q hR
  refine (codeAny_builtin F.entry_extend_loop) ?_
  rw [(Around.under_plainId F.plain_extend_loop _)]
  show wpAny _ A.in1 (pyNext (.ref a) >>= _) _ _ s
  refine wpAny_bind (gen_next (B := A.in1.in1) rfl hh hd (by simp) l hk Gs st q (fun s' H' G' f sm => ?_) fun m v s' i' k' H' y hn hk' ry G' st' gt sm l' => ?_)
  · obtain ⟨ys, us, S2, μ, ⟨acc, c, e, hzl, rv⟩, rys, s1, p⟩ := f
    rw [vw_at hSm] at e
    exact wpAny_pure (hR acc c s' H' G' e ⟨ys, us, S2, μ, hzl, rv, rys, s1, p⟩)
  · obtain ⟨e1, e2, ys, us, d, S2, μ, ⟨acc, c, e, hzl, rv⟩, rys, rd, s1, p⟩ := gt
    rw [vw_at hSm] at e
    have hlen : ys.length < sizeLine ∧ Post G μ S2 H' W (WQ G Q) (genL bod chkAll fin (ys ++ [d]) (ds.drop i') S2) := by
      unfold chkAll at p
      by_cases hz : ys.length < sizeLine
      · rw [if_pos hz] at p
        rcases p with ⟨r, h, _⟩ | ⟨_, p⟩
        · cases h
        · exact ⟨hz, p⟩
      · rw [if_neg hz] at p
        rcases p with ⟨r, h, _⟩ | ⟨h, _⟩ <;> cases h
    have hacc : acc.size < sizeLine := by
      have q1 : us.length = acc.toList.length := rv.length
      have q2 : ys.length = us.length := rys.length
      have q3 : acc.toList.length = acc.size := Array.length_toList
      have q4 : ys.length < sizeLine := hlen.1
      omega
    show wpAny _ A.in1 (updateSeq S (·.push v) >>= _) _ _ _
    refine wpAny_bind ?_
    have oth : ∀ b o, b ≠ S → s'.heap.get? b = some o → (s'.heap.update S (Obj.mapSeq (·.push v))).get? b = some o := fun b o hb e => (Heap.get?_update_other _ _ (Ne.symm hb)).trans e
    have upX : ∃ c, (s'.heap.update S (Obj.mapSeq (·.push v))).get? S = some (lo (acc.push v) c) := ⟨_, Heap.get?_update_self _ e rfl⟩
    obtain ⟨c9, upX⟩ := upX
    have G2 : GSt Y fp [a, S] σ0 H' { s' with heap := s'.heap.update S (Obj.mapSeq (·.push v)) } := G'.turn (t' := s'.toks) hpn hSm oth ⟨_, upX, fun v e => by cases e⟩
    refine wpAny_updateSeq e rfl (wpAny_pure ⟨plainId_quiet F.plain_extend_loop _, ?_⟩) (Nat.le_of_lt hacc) (by show (acc.push v).size ≤ sizeLine + 1; rw [Array.size_push]; omega)
    refine ih m (by omega) i' k' H' _ (l'.mono' rfl fun o e => oth a o (Ne.symm hSa) e) hk' G2 (keep _ _ _ st' fun b hb o e => oth b o (fun z => (G'.wsn S hSm).2.2.2.1 (by rw [← z]; exact hb)) e) keep ⟨e1, e2, _, us ++ [y], S2, μ, ⟨acc.push v, c9, by rw [vw_at hSm]; exact upX, by rw [List.length_append, ← rys.length]; exact hlen.1, ?_⟩, rys.append (show RVs G μ S2.n H' [d] [y] from ⟨_, _, rfl, rd, rfl⟩), s1, hlen.2⟩ hR
    rw [Array.toList_push]
    exact rv.append (.cons ry .nil)
end
section
variable {X : Cx} {G : Gx} {W : XK} {pins : List (Addr × Obj)} {σ : L2.St} {tg elt iter : Expr} {ifs : List Expr} {scope : Scope} {gpos : Pos} {vs : List Nat} {R : It → Hp → Prop} {a gi : Nat} {s5 s4 : Shared} {H4 : Hp} {genv : Env} {fp ws : List Addr} {it : Addr} {tn : Nat → Heap → Prop} {J : It}
  {g : D → En → M En} {t : En → M Bool} {fe : En → M D} {Q : VK} {fin : List D → M D} {ds : List D} {μ1 : Nat → Addr} {S1 : Sto} {σd : En}
/-- all values, in a new list that nobody holds -/
theorem gen_collect {A : Around} {k : Nat} {E : Value → Shared → Prop} {Qc : List Value → Shared → Prop} (hB : Near X A.in1.in1) (hr : Room k X.A) (hAd : A.depth = X.A.depth) (hAh : A.handled = none) (hc : X.calm = true) (hco : scope.isCoroutine = false) (pc : GPc X G scope vs tg elt ifs g t fe)
    (M : GMk X pins σ tg elt iter ifs scope gpos vs R a s5 gi s4 H4 genv fp it tn J) (a1 : At G σd S1 μ1 σ H4) (ok : ItOk G J μ1 S1 H4 ds) (q : Post G μ1 S1 H4 W (WQ G Q) (genL (bodG vs g t fe σd) chkAll fin [] ds S1))
    (hQ : ∀ us s' H' ys vv S2 μ, Inv X pins σ H' s' → Vals vv us → us.length ≤ sizeLine → RVs G μ S2.n H' ys vv → Lnk G μ S2 H' → Post G μ S2 H' W (WQ G Q) (fin ys S2) → Qc us s') :
    wpAny (model X.prog X.w) A (collect (.ref a)) Qc E s5 := by
  have hlt : a < s5.heap.objs.size := let ⟨_, _, _, ho, _⟩ := M.gen; Heap.lt_size ho
  have hSa : s5.heap.objs.size ≠ a := Nat.ne_of_gt hlt
  have tyg : ∀ {h : Heap}, (∀ b o, s5.heap.get? b = some o → h.get? b = some o) → h.IsGen a gi := fun {h} z => M.gen.keeps z
  unfold collect
  refine (wpAny_bind (wpAny_runValue (codeAny_builtin F.entry_proto_collect ?_)))
  rw [(Around.under_plainId F.plain_proto_collect _)]
  show wpAny _ A.in1 (newList [] >>= fun l => again (.builtin "list.__iadd__" ⟨[l, .ref a], []⟩)) _ _ s5
  refine wpAny_bind ((wpAny_newObj_type ?_))
  refine wpAny_pure ⟨plainId_quiet F.plain_list_iadd _, (codeAny_builtin F.entry_list_iadd) ?_⟩
  rw [(Around.under_plainId F.plain_list_iadd _)]
  show wpAny _ A.in1 (Builtin.List.listExtendWith (.ref s5.heap.objs.size) (.ref a) (.ref s5.heap.objs.size)) _ _ _
  unfold Builtin.List.listExtendWith
  have k1 : ∀ b o, s5.heap.get? b = some o → (s5.heap.push { cls := .type "list", data := .seq ([] : List Value).toArray }).get? b = some o := fun b o e => Heap.get?_push_of_some _ e
  have ty1 : ({ s5 with heap := s5.heap.push { cls := .type "list", data := .seq ([] : List Value).toArray } } : Shared).TypeIs (.ref a) "generator" := Heap.IsGen.typeIs (s := { s5 with heap := _ }) (tyg k1)
  refine wpAny_bind (wpAny_typeOf ty1 ?_)
  have h1 : Builtin.List.listSameRef (.ref s5.heap.objs.size) (.ref a) = false := by simp [Builtin.List.listSameRef, hSa]
  have h2 : (Value.type "generator" == Value.type "list") = false := by decide
  have h3 : (Value.type "generator" == Value.type "tuple") = false := by decide
  simp only [h1, h2, h3, Bool.or_false, Bool.false_eq_true, if_false]
  refine wpAny_bind (wpAny_pyIter_gen (s := { s5 with heap := _ }) (tyg k1) ?_)
  refine wpAny_bind ((wpAny_holding ?_))
  unfold Builtin.List.listLengthHint
  refine wpAny_bind (wpAny_specialOf ty1 F.gen_no_len ?_)
  show wpAny _ A.in1 (specialOf (Value.ref a) (Str.ofString "__length_hint__") >>= _) _ _ _
  refine wpAny_bind (wpAny_specialOf ty1 F.gen_no_hint ?_)
  refine wpAny_pure ?_
  show wpAny _ A.in1 (rule "list.extend.makes-room" >>= fun _ => Builtin.List.listTouch (.ref s5.heap.objs.size) >>= fun _ =>
    again (.builtin "list.extend.loop" ⟨[.ref s5.heap.objs.size, .ref a, .ref s5.heap.objs.size], []⟩)) _ _ _
  refine wpAny_bind (wpAny_rule ?_)
  have eS1 : (s5.heap.push { cls := .type "list", data := .seq ([] : List Value).toArray }).get? s5.heap.objs.size = some { cls := .type "list", data := .seq ([] : List Value).toArray } := Heap.get?_push_size _ rfl
  refine wpAny_bind ?_
  show wpAny _ A.in1 (updateSeq s5.heap.objs.size (·.push .none) >>= fun _ => updateSeq s5.heap.objs.size (·.pop)) _ _ _
  refine wpAny_bind (wpAny_updateSeq eS1 rfl ?_)
  have eS2 := Heap.get?_update_self (Obj.mapSeq (·.push Value.none)) eS1 rfl
  refine wpAny_updateSeq eS2 rfl ?_
  have eS3 : ∃ c, (((s5.heap.push { cls := .type "list", data := .seq ([] : List Value).toArray }).update s5.heap.objs.size (Obj.mapSeq (·.push Value.none))).update s5.heap.objs.size (Obj.mapSeq (·.pop))).get? s5.heap.objs.size = some (lo #[] c) := ⟨_, Heap.get?_update_self (Obj.mapSeq (·.pop)) eS2 rfl⟩
  obtain ⟨c3, eS3⟩ := eS3
  have k3 : ∀ b o, s5.heap.get? b = some o → (((s5.heap.push { cls := .type "list", data := .seq ([] : List Value).toArray }).update s5.heap.objs.size (Obj.mapSeq (·.push Value.none))).update s5.heap.objs.size (Obj.mapSeq (·.pop))).get? b = some o := fun b o e =>
    have hb : s5.heap.objs.size ≠ b := Nat.ne_of_gt (Heap.lt_size e)
    (Heap.get?_update_other _ _ hb).trans ((Heap.get?_update_other _ _ hb).trans (k1 b o e))
  refine wpAny_pure ⟨plainId_quiet F.plain_extend_loop _, ?_⟩
  generalize hh6 : ((s5.heap.push { cls := .type "list", data := .seq ([] : List Value).toArray }).update s5.heap.objs.size (Obj.mapSeq (·.push Value.none))).update s5.heap.objs.size (Obj.mapSeq (·.pop)) = h6 at eS3 k3
  have Gs : GSt (gcx X A.in1.in1 s4 H4 genv fp) fp [a, s5.heap.objs.size] (L2.wipe σ vs) H4 { s5 with heap := h6 } := M.gst hB (t6 := s5.toks) k3 fun b hb => by
    rcases List.mem_cons.mp hb with z | z
    · exact .inl z
    · have z := List.mem_singleton.mp z
      exact .inr ⟨Nat.le_of_eq z.symm, by rw [z]; exact ⟨_, eS3, fun v e => by cases e⟩⟩
  refine ext_loop (W := W) (Y := gcx X A.in1.in1 s4 H4 genv fp) (A := A) rfl hAh (by have := hr.dp; omega) hSa (.ref s5.heap.objs.size) (ds.length + 1) 0 ds.length H4 { s5 with heap := h6 } (M.live hB hc hco pc a1 ok rfl fun o e => k3 a o e) (Nat.lt_succ_self _) Gs (M.T.keep _ _ _ M.st fun b _ o e => k3 b o e) M.T.keep
    (StD.first a1.lnk ⟨#[], c3, by rw [vw_at (by simp)]; exact eS3, Nat.zero_le _, .nil⟩ q) fun acc c s' H' G' e hv => ?_
  obtain ⟨ys, us, S2, μ, hzl, rv, rys, s1, p⟩ := hv
  show wpAny _ A (load s5.heap.objs.size >>= _) _ _ s'
  refine wpAny_bind (wpAny_load e ?_)
  refine wpAny_pure (hQ acc.toList s' H' ys us S2 μ (M.back G') rv (by rw [← rv.length]; exact hzl) rys s1.lnk p)
end
end Fd

set_option Elab.async false
set_option linter.all false
set_option maxRecDepth 100000
set_option maxHeartbeats 1000000
namespace Fd
open PySem PySem.Spec PyProof.Rows L2 GenW LamX
section
variable {X : Cx} {G : Gx} {W : XK} {pins : List (Addr × Obj)} {σ : L2.St} {tg elt iter : Expr} {ifs : List Expr} {scope : Scope} {gpos : Pos} {vs : List Nat}
  {g : D → En → M En} {t : En → M Bool} {fe : En → M D} {chk : List D → D → Option (Option D)} {fin : List D → M D}
theorem near_in4 (hd : X.A.handled = none) : Near X X.A.in1.in1.in1.in1 := ⟨hd, rfl, Nat.le_succ _, by show X.A.units + 1 + 1 + 1 + 1 ≤ _; omega⟩
theorem se_genTy {T0 : List (Addr × Str)} {k : Nat} {c P : Addr} {own : List (Str × Nat)} {fit : En → M (List D)} {x : Str} {T : String} {p pos : Pos} (Hh : GHost X G T0 k c P) (Sc : GSc X scope own) (hi : SI X G W tg iter fit) (use : UseG X G W scope gpos (own.map (·.2)) tg elt iter ifs g t fe chk fin (.type T))
    (hm : X.mg x = none) (hg : Gl X x := by rfl) (hv : bootBuiltins x = some (.type T) := by decide +kernel) (hn : x ≠ "__name__" := by decide) (hdb : (x == ("__debug__" : Str)) = false := by decide) (hgf : ∀ v, genFold iter X.env v = pure v := by intro _; rfl)
    (he : starEach [.GeneratorExp elt [⟨tg, iter, ifs, 0⟩] scope gpos] X.env = (false, eval (.GeneratorExp elt [⟨tg, iter, ifs, 0⟩] scope gpos) X.env) :: starEach [] X.env := by rfl) :
    SE X G W (.Call (.Name x p) [.GeneratorExp elt [⟨tg, iter, ifs, 0⟩] scope gpos] [] pos) (genE fit (own.map (·.2)) g t fe chk fin) := by
  refine ⟨fun pins s σ H Q I h => ?_⟩
  refine wpAny_Call_Name_kw (ld_blt I hg hm hv ?_ hn hdb)
  refine PyProof.Rows.callWith_type1 ?_ he (by rfl)
  rw [he]
  show wpAny _ _ (spliced ((false, eval (.GeneratorExp elt [⟨tg, iter, ifs, 0⟩] scope gpos) X.env) :: backTo pos (starEach [] X.env))) _ _ s
  exact Calls.spliced_cons (wpAny_mono (gen_run Hh Sc hi hgf use I h) (fun v s5 hv => Calls.spliced_nil hv) fun _ _ x => x)
/-! ### tuple -/
def finTup : List D → M D := fun ys => M.pure (.tup ys)
theorem use_tuple {k : Nat} (hr : Room k X.A) (hc : X.calm = true) (hco : scope.isCoroutine = false) (pc : GPc X G scope vs tg elt ifs g t fe) : UseG X G W scope gpos vs tg elt iter ifs g t fe chkAll finTup (.type "tuple") := by
  intro pins σ R a gi s5 s4 H4 genv fp it tn J Q ds μ1 S1 σd M a1 ok q
  refine callType_codes (Q₁ := fun obj s₁ => s₁.TypeIs obj "tuple" ∧ EP X pins σ Q obj s₁) F.called_tuple (F.typeCall_tuple_1 _) F.entry_object_init ?_ fun obj s₁ h₁ => ?_
  · refine codeAny_of_tree ?_
    show wpAny _ X.A.in1.in1 (do checkBuiltinCall "tuple.__new__" ⟨[.type "tuple", .ref a], []⟩; again (.builtin "tuple.__new__" ⟨[.type "tuple", .ref a], []⟩)) _ _ s5
    refine wpAny_bind (wpAny_of_eq (F.newCall_tuple_1 _) (wpAny_pure ⟨plainId_quiet F.plain_tuple_new _, codeAny_builtin F.entry_tuple_new ?_⟩))
    rw [(Around.under_plainId F.plain_tuple_new _)]
    have hsub := sub_tuple_self
    have hinit := init_tuple_lookup
    have hmh := madeHere_tuple
    have hTI : s5.TypeIs (.ref a) "generator" := M.gen.typeIs
    have col : ∀ {E : Value → Shared → Prop} {Qc : List Value → Shared → Prop}, (∀ us s' H' ys vv S2 μ, Inv X pins σ H' s' → Vals vv us → us.length ≤ sizeLine → RVs G μ S2.n H' ys vv → Lnk G μ S2 H' → Post G μ S2 H' W (WQ G Q) (finTup ys S2) → Qc us s') →
        wpAny (model X.prog X.w) X.A.in1.in1 (collect (.ref a)) Qc E s5 := fun {E Qc} hQ => gen_collect (A := X.A.in1.in1) (k := k) (near_in4 hr.hd) hr rfl hr.hd hc hco pc M a1 ok q hQ
    wp_walk using wpAny_typeOf hTI, col
    intro us s' H' ys vv S2 μ I' rv hz rys L2 p
    show wpAny _ _ (Builtin.Tuple.tupleExact us.toArray >>= fun v => ret v) _ _ _
    unfold Builtin.Tuple.tupleExact
    refine wpAny_bind ((wpAny_newObj_type ?_ (by show us.toArray.size ≤ sizeLine; simpa using hz)))
    refine wpAny_pure ?_
    have hn : H' s'.heap.objs.size = none := I'.hok.fresh (Nat.le_refl _)
    refine ⟨⟨_, Heap.get?_push_size _ rfl, rfl⟩, .ref s'.heap.objs.size, upd H' s'.heap.objs.size (.tup vv), ?_, rfl, Post.step (Stp.new L2 hn) p _ (new_tup L2 hn rys)⟩
    exact I'.laid (t' := s'.toks) (fun b o e => Heap.get?_push_of_some _ e) (Nat.le_refl _) ⟨by rw [rv.length]; exact hz, us, rv, _, Heap.get?_push_size _ rfl, rfl, _, rfl⟩
  · exact ⟨h₁.1, F.args_object_init_2 obj _, object_init_meets F.called_tuple.init.lookup F.called_tuple.made (by decide) X.prog X.w X.A.in1 _ s₁ ⟨h₁.1, rfl, h₁.2⟩⟩
/-! ### sum, min, max -/
theorem use_sum {k : Nat} (hr : Room k X.A) (hc : X.calm = true) (hco : scope.isCoroutine = false) (pc : GPc X G scope vs tg elt ifs g t fe) : UseG X G W scope gpos vs tg elt iter ifs g t fe chkSum finSum (.builtin "sum") := by
  intro pins σ R a gi s5 s4 H4 genv fp it tn J Q ds μ1 S1 σd M a1 ok q
  have hB := near_in2 (X := X) hr.hd
  have hlt : a < s5.heap.objs.size := let ⟨_, _, _, ho, _⟩ := M.gen; Heap.lt_size ho
  have hSa : s5.heap.objs.size ≠ a := Nat.ne_of_gt hlt
  refine (call_function_tree F.kind_sum F.plain_sum F.entry_sum (F.args_sum1 _)) ?_
  unfold Builtin.«sum»
  simp only [List.length_cons, List.length_nil]
  rw [if_neg (by decide)]
  refine wpAny_bind (wpAny_of_eq (show Builtin.Builtins.bindParams "sum" ["start"] 0 { } = pure [none] from rfl) ?_)
  refine wpAny_bind (wpAny_pyIter_gen M.gen ?_)
  refine wpAny_bind ((wpAny_mkInt ?_))
  refine wpAny_bind ((wpAny_pure ?_))
  simp only [List.forIn_cons, List.forIn_nil]
  refine wpAny_bind (wpAny_bind (wpAny_bind (wpAny_isInstance (T := "int") (b := false) (typeIs_int _ _ _) PySem.sub_int_str ?_)))
  simp only [Bool.false_eq_true, if_false]
  refine wpAny_pure (wpAny_bind (wpAny_bind (wpAny_isInstance (T := "int") (b := false) (typeIs_int _ _ _) PySem.sub_int_bytes ?_)))
  simp only [Bool.false_eq_true, if_false]
  refine wpAny_pure (wpAny_bind (wpAny_bind (wpAny_isInstance (T := "int") (b := false) (typeIs_int _ _ _) PySem.sub_int_bytearray ?_)))
  simp only [Bool.false_eq_true, if_false]
  refine wpAny_pure (wpAny_pure ?_)
  refine wpAny_bind ((wpAny_newObj_type ?_))
  have eS : ∃ t c, (s5.heap.push { cls := .type "list", data := .seq [Value.int 0 s5.toks].toArray }).get? s5.heap.objs.size = some (lo #[.int 0 t] c) := ⟨_, _, Heap.get?_push_size _ rfl⟩
  obtain ⟨t3, c3, eS⟩ := eS
  have k3 : ∀ b o, s5.heap.get? b = some o → (s5.heap.push { cls := .type "list", data := .seq [Value.int 0 s5.toks].toArray }).get? b = some o := fun b o e => Heap.get?_push_of_some _ e
  have Gs : ∀ t6, GSt (gcx X X.A.in1.in1 s4 H4 genv fp) fp [a, s5.heap.objs.size] (L2.wipe σ vs) H4 { s5 with heap := s5.heap.push { cls := .type "list", data := .seq [Value.int 0 s5.toks].toArray }, toks := t6 } := fun t6 => M.gst hB k3 fun b hb => by
    rcases List.mem_cons.mp hb with z | z
    · exact .inl z
    · have z := List.mem_singleton.mp z
      exact .inr ⟨Nat.le_of_eq z.symm, by rw [z]; exact ⟨_, eS, fun v e => by cases e⟩⟩
  exact wpAny_pure ⟨plainId_quiet F.plain_sum_loop _, sum_loop (W := W) (Y := gcx X X.A.in1.in1 s4 H4 genv fp) (A := X.A) rfl hr.hd (by have := hr.dp; omega) hSa (ds.length + 1) 0 ds.length H4 _ (M.live hB hc hco pc a1 ok rfl fun o e => k3 a o e) (Nat.lt_succ_self _) (Gs _) (M.T.keep _ _ _ M.st fun b _ o e => k3 b o e) M.T.keep
    (StD.first a1.lnk ⟨t3, c3, by rw [vw_at (by simp)]; exact eS⟩ q) fun m t s' H' G' hq => ⟨.int m, H', M.back G', ⟨t, rfl⟩, hq⟩⟩
theorem use_min {k : Nat} (hr : Room k X.A) (hc : X.calm = true) (hco : scope.isCoroutine = false) (pc : GPc X G scope vs tg elt ifs g t fe) : UseG X G W scope gpos vs tg elt iter ifs g t fe chkInt (finBest ltB) (.builtin "min") := by
  intro pins σ R a gi s5 s4 H4 genv fp it tn J Q ds μ1 S1 σd M a1 ok q
  have hB := near_in2 (X := X) hr.hd
  have hlt : a < s5.heap.objs.size := let ⟨_, _, _, ho, _⟩ := M.gen; Heap.lt_size ho
  have hSa : s5.heap.objs.size ≠ a := Nat.ne_of_gt hlt
  have hname : (toString "min" ++ toString ".loop" : String) = "min.loop" := by decide
  refine (call_function_tree F.kind_min F.plain_min F.entry_min (F.args_min1 _)) ?_
  show wpAny _ X.A.in1 (Builtin.Builtins.bindParams "min" ["key", "default"] 0 ⟨[], []⟩ >>= _) _ _ s5
  refine wpAny_bind (wpAny_of_eq (show Builtin.Builtins.bindParams "min" ["key", "default"] 0 ⟨[], []⟩ = pure [none, none] from rfl) ?_)
  refine wpAny_bind ((wpAny_pure ?_))
  refine wpAny_bind (wpAny_pyIter_gen M.gen ?_)
  refine wpAny_bind ((wpAny_newObj_type ?_))
  have eS : ∃ c, (s5.heap.push { cls := .type "list", data := .seq ([] : List Value).toArray }).get? s5.heap.objs.size = some (lo #[] c) := ⟨_, Heap.get?_push_size _ rfl⟩
  obtain ⟨c3, eS⟩ := eS
  have k3 : ∀ b o, s5.heap.get? b = some o → (s5.heap.push { cls := .type "list", data := .seq ([] : List Value).toArray }).get? b = some o := fun b o e => Heap.get?_push_of_some _ e
  have Gs : ∀ t6, GSt (gcx X X.A.in1.in1 s4 H4 genv fp) fp [a, s5.heap.objs.size] (L2.wipe σ vs) H4 { s5 with heap := s5.heap.push { cls := .type "list", data := .seq ([] : List Value).toArray }, toks := t6 } := fun t6 => M.gst hB k3 fun b hb => by
    rcases List.mem_cons.mp hb with z | z
    · exact .inl z
    · have z := List.mem_singleton.mp z
      exact .inr ⟨Nat.le_of_eq z.symm, by rw [z]; exact ⟨_, eS, fun v e => by cases e⟩⟩
  rw [hname]
  exact wpAny_pure ⟨plainId_quiet F.plain_min_loop _, min_loop (W := W) (Y := gcx X X.A.in1.in1 s4 H4 genv fp) (A := X.A) rfl hr.hd (by have := hr.dp; omega) hSa (ds.length + 1) 0 ds.length H4 _ (M.live hB hc hco pc a1 ok rfl fun o e => k3 a o e) (Nat.lt_succ_self _) (Gs _) (M.T.keep _ _ _ M.st fun b _ o e => k3 b o e) M.T.keep
    (StD.first a1.lnk ⟨c3, by rw [vw_at (by simp)]; exact eS⟩ q) fun m t s' H' G' hq => ⟨.int m, H', M.back G', ⟨t, rfl⟩, hq⟩⟩
theorem use_max {k : Nat} (hr : Room k X.A) (hc : X.calm = true) (hco : scope.isCoroutine = false) (pc : GPc X G scope vs tg elt ifs g t fe) : UseG X G W scope gpos vs tg elt iter ifs g t fe chkInt (finBest gtB) (.builtin "max") := by
  intro pins σ R a gi s5 s4 H4 genv fp it tn J Q ds μ1 S1 σd M a1 ok q
  have hB := near_in2 (X := X) hr.hd
  have hlt : a < s5.heap.objs.size := let ⟨_, _, _, ho, _⟩ := M.gen; Heap.lt_size ho
  have hSa : s5.heap.objs.size ≠ a := Nat.ne_of_gt hlt
  have hname : (toString "max" ++ toString ".loop" : String) = "max.loop" := by decide
  refine (call_function_tree F.kind_max F.plain_max F.entry_max (F.args_max1 _)) ?_
  show wpAny _ X.A.in1 (Builtin.Builtins.bindParams "max" ["key", "default"] 0 ⟨[], []⟩ >>= _) _ _ s5
  refine wpAny_bind (wpAny_of_eq (show Builtin.Builtins.bindParams "max" ["key", "default"] 0 ⟨[], []⟩ = pure [none, none] from rfl) ?_)
  refine wpAny_bind ((wpAny_pure ?_))
  refine wpAny_bind (wpAny_pyIter_gen M.gen ?_)
  refine wpAny_bind ((wpAny_newObj_type ?_))
  have eS : ∃ c, (s5.heap.push { cls := .type "list", data := .seq ([] : List Value).toArray }).get? s5.heap.objs.size = some (lo #[] c) := ⟨_, Heap.get?_push_size _ rfl⟩
  obtain ⟨c3, eS⟩ := eS
  have k3 : ∀ b o, s5.heap.get? b = some o → (s5.heap.push { cls := .type "list", data := .seq ([] : List Value).toArray }).get? b = some o := fun b o e => Heap.get?_push_of_some _ e
  have Gs : ∀ t6, GSt (gcx X X.A.in1.in1 s4 H4 genv fp) fp [a, s5.heap.objs.size] (L2.wipe σ vs) H4 { s5 with heap := s5.heap.push { cls := .type "list", data := .seq ([] : List Value).toArray }, toks := t6 } := fun t6 => M.gst hB k3 fun b hb => by
    rcases List.mem_cons.mp hb with z | z
    · exact .inl z
    · have z := List.mem_singleton.mp z
      exact .inr ⟨Nat.le_of_eq z.symm, by rw [z]; exact ⟨_, eS, fun v e => by cases e⟩⟩
  rw [hname]
  exact wpAny_pure ⟨plainId_quiet F.plain_max_loop _, max_loop (W := W) (Y := gcx X X.A.in1.in1 s4 H4 genv fp) (A := X.A) rfl hr.hd (by have := hr.dp; omega) hSa (ds.length + 1) 0 ds.length H4 _ (M.live hB hc hco pc a1 ok rfl fun o e => k3 a o e) (Nat.lt_succ_self _) (Gs _) (M.T.keep _ _ _ M.st fun b _ o e => k3 b o e) M.T.keep
    (StD.first a1.lnk ⟨c3, by rw [vw_at (by simp)]; exact eS⟩ q) fun m t s' H' G' hq => ⟨.int m, H', M.back G', ⟨t, rfl⟩, hq⟩⟩
end
end Fd

set_option Elab.async false
set_option linter.all false
set_option maxRecDepth 100000
set_option maxHeartbeats 1000000
namespace Fd
open PySem PySem.Spec PyProof.Rows L2 GenW LamX
/-! ### list comprehensions -/
section
variable {X : Cx} {pins : List (Addr × Obj)} {σ : L2.St} {H : Hp} {s : Shared}
/-- an untracked list is tracked from now on -/
theorem inv_track {D : Addr} {acc : Array Value} {c : Nat} {us : List V} (I : Inv X pins σ H s) (f : FpOk X pins H D) (ho : s.heap.get? D = some (lo acc c)) (rv : Vals us acc.toList) (hz : us.length ≤ sizeLine) : Inv X pins σ (upd H D (.lst us)) s := by
  obtain ⟨f0, f1, f2, f3, f4, f5⟩ := f
  refine I.step (g' := s.gens) (d' := s.drawn) (t' := s.toks) (ch := [D]) (fun b hb => by rw [List.mem_singleton.mp hb]; exact ⟨f3, f1, f4, f5⟩) (fun b o _ _ _ e _ => e) (fun b o _ _ _ e _ => ⟨o.slots, e⟩)
    (fun b o hb _ n => by rw [upd_ne (fun z => hb (List.mem_singleton.mpr z))]; exact n) (fun b o _ e => ⟨o, e⟩) (fun b xs e => by rw [upd_ne (ne_of_none e f0)]; exact e) (fun b o u e => by rw [upd_ne (ne_of_none e f0)]; exact e) (fun b ps e => ⟨#[], by rw [upd_ne (ne_of_none e f0), e]; simp⟩) (fun m hm => hm) (fun b u e => ?_) I.bare
  by_cases hb : b = D
  · subst hb
    rw [upd_same] at e
    cases e
    exact ⟨hz, acc.toList, c, rv, by simpa using ho⟩
  · rw [upd_ne hb] at e
    exact (I.hok b u e).stay (fun d v _ q => q) (fun d q => by rw [upd_ne (ne_of_none q f0)]; exact q) fun d xs q => by rw [upd_ne (ne_of_none q f0)]; exact q
end
/-- what is made of the values -/
def FinL (G : Gx) (fin : List D → M D) : Prop := ∀ (W : XK) (Q : VK) (μ : Nat → Addr) (S : Sto) (H : Hp) (ys : List D) (us : List V) (p : Addr), Lnk G μ S H → RVs G μ S.n H ys us → Post G μ S H W (WQ G Q) (fin ys S) → H p = none → Q (.ref p) (upd H p (.lst us))
def finLst : List D → M D := fun ys => M.pure (.lst ys)
theorem finL_lst {G : Gx} : FinL G finLst := fun W Q μ S H ys us p L r q hp => Post.step (Stp.new L hp) q _ (new_lst L hp r)
theorem finL_own {G : Gx} : FinL G newL := fun W Q μ S H ys us p L r q hp => Post.step (own_lst L hp r) q _ rv_own
section
variable {X : Cx} {G : Gx} {W : XK} {tg elt iter : Expr} {ifs : List Expr} {scope : Scope} {own : List (Str × Nat)} {pos : Pos} {g : D → En → M En} {t : En → M Bool} {fe : En → M D} {fit : En → M (List D)} {fin : List D → M D}
/-- a reading with the outer slots known -/
abbrev rdTw (G : Gx) (W : XK) (σ0 : L2.St) (vs : List Nat) (t : En → M Bool) : TT := fun σ H Q => L2.wipe σ vs = L2.wipe σ0 vs ∧ rdT G W t σ H Q
abbrev rdEw (G : Gx) (W : XK) (σ0 : L2.St) (vs : List Nat) (f : En → M D) : TE := fun σ H Q => L2.wipe σ vs = L2.wipe σ0 vs ∧ rdE G W f σ H Q
structure LPc (X : Cx) (G : Gx) (scope : Scope) (vs : List Nat) (tg elt : Expr) (ifs : List Expr) (g : D → En → M En) (t : En → M Bool) (fe : En → M D) : Prop where
  run : ∀ (pins : List (Addr × Obj)) (σ0 : L2.St) (s : Shared) (H : Hp) (C : Addr) (cl : List (Str × Addr)) (fp : List Addr), Inv X pins σ0 H s → (∀ b ∈ fp, FpOk X pins H b) →
    SGc (X.blk s H scope (compEnvC scope cl C X.env) fp) G NoX vs tg g ∧ PTs (X.blk s H scope (compEnvC scope cl C X.env) fp) ifs (rdTw G NoX σ0 vs t) ∧ PE (X.blk s H scope (compEnvC scope cl C X.env) fp) elt (rdEw G NoX σ0 vs fe)
/-- pieces that do not look out -/
theorem LPc.of {vs : List Nat} (h : ∀ (s : Shared) (H : Hp) (C : Addr) (cl : List (Str × Addr)) (fp : List Addr),
    SGc (X.blk s H scope (compEnvC scope cl C X.env) fp) G NoX vs tg g ∧ STs (X.blk s H scope (compEnvC scope cl C X.env) fp) G NoX ifs t ∧ SE (X.blk s H scope (compEnvC scope cl C X.env) fp) G NoX elt fe) : LPc X G scope vs tg elt ifs g t fe :=
  ⟨fun pins σ0 s H C cl fp _ _ => let ⟨h1, h2, h3⟩ := h s H C cl fp; ⟨h1, pts_imp h2 fun σ H Q q => q.2, pe_imp h3 fun σ H Q q => q.2⟩⟩
theorem lcD {pins : List (Addr × Obj)} {s : Shared} {σ : L2.St} {H : Hp} {Q : VK} {pos' : Pos} {use : Option (Value → Sem Unit)} {Qf : Value → Shared → Prop}
    (hc : X.calm = true) (hN : X.N.Nodup) (hf : FinL G fin) (I : Inv X pins σ H s) (hi : SI X G W tg iter fit) (ok : BlkOk X.N X.env.scope scope own) (pc : LPc X G scope (own.map (·.2)) tg elt ifs g t fe) (hs : ∀ x, foldedSetIterable iter X.env x = pure x)
    (h : rdE G W (genE fit (own.map (·.2)) g t fe chkAll fin) σ H Q)
    (hRR : ∀ D C s' m H', Inv X pins σ H' s' → Q (.ref D) H' → s'.heap.Ns C m → FpOk X pins H' C → compPost (model X.prog X.w) X.A X.xe use Qf (.ref D) C (.ok .next) s') :
    wpAny (model X.prog X.w) X.A (comprehension (.ListComp elt [⟨tg, iter, ifs, 0⟩] scope pos) scope X.env pos' (newList []) false (eval iter X.env) use) Qf X.xe s := by
  have hfree : ∀ y ∈ scope.names, y.2 = .free → ∃ c, X.env.cells.lookup y.1 = some c := fun y hy e => by
    rcases ok.free y hy e with z | z
    · exact I.ok.has _ (.inl z)
    · exact I.ok.has _ (.inr z)
  obtain ⟨σd, S, μ, a0, p⟩ := h
  have p := Post.bind (k := fun ds => genL (bodG (own.map (·.2)) g t fe σd) chkAll fin [] ds) p
  have hw : rdI G W fit σ H (fun J H1 => ∃ ds S1 μ1, At G σd S1 μ1 σ H1 ∧ ItOk G J μ1 S1 H1 ds ∧ Post G μ1 S1 H1 W (WQ G Q) (genL (bodG (own.map (·.2)) g t fe σd) chkAll fin [] ds S1)) :=
    ⟨σd, S, μ, a0, p.mono fun ds S1 μ1 H1 s1 q J ok => ⟨ds, S1, μ1, a0.step s1, ok, q⟩⟩
  refine wpAny_comprehension_free (use := use) rfl hs (closure_ok hfree) ok.kind (fun y hy e => by rw [ok.uniq y hy, e])
    (wpAny_mono (hi.run pins s σ H _ I hw) (fun xv s1 hx => wpAny_mono hx (fun itv s2 h2 => ?_) fun _ _ x => x) fun _ _ x => x)
  obtain ⟨it, fp, tn, J, H2, e, I2, T, st2, f2, ds, S1, μ1, a1, iok, q⟩ := h2
  subst e
  refine wpAny_newObj_type (newEnv_comp ?_) (by show 0 ≤ sizeLine; decide)
  have hDn : ∀ {H' : Hp}, H' s2.heap.objs.size = none → FpOk X pins H' s2.heap.objs.size := fun {H'} z => I2.fpOk (Nat.le_refl _) z
  have h2D : H2 s2.heap.objs.size = none := I2.hok.fresh (Nat.le_refl _)
  generalize hs3 : ({ s2 with heap := s2.heap.push { cls := .type "list", data := .seq ([] : List Value).toArray } } : Shared) = s3
  have h3 : s3.heap = s2.heap.push { cls := .type "list", data := .seq ([] : List Value).toArray } := by rw [← hs3]
  have I3 : Inv X pins σ H2 s3 := by rw [← hs3]; exact I2.kept (t' := s2.toks) fun b o e => Heap.get?_push_of_some _ e
  have eD : ∃ c, s3.heap.get? s2.heap.objs.size = some (lo #[] c) := by rw [h3]; exact ⟨_, Heap.get?_push_size _ rfl⟩
  generalize hD : s2.heap.objs.size = D at hDn h2D eD
  have sz : ∀ b ∈ fp, b < D := fun b hb => by
    obtain ⟨o, e, _⟩ := T.obj _ _ st2 b hb
    rw [← hD]
    exact Heap.lt_size e
  have hD3 : D < s3.heap.objs.size := by rw [h3, Heap.size_push, ← hD]; exact Nat.lt_succ_self _
  have f3 : ∀ b ∈ D :: fp, FpOk X pins H2 b ∧ b < s3.heap.objs.size := fun b hb => by
    rcases List.mem_cons.mp hb with z | z
    · rw [z]; exact ⟨hDn h2D, hD3⟩
    · exact ⟨f2 b z, Nat.lt_trans (sz b z) hD3⟩
  have st3 : tn 0 s3.heap := T.keep _ _ _ st2 fun b _ o e => by rw [h3]; exact Heap.get?_push_of_some _ e
  have I4 := block_start I3 ok hN f3
  obtain ⟨pg, pt, pe⟩ := pc.run pins σ s3 H2 s3.heap.objs.size (cellsFrom (s3.heap.objs.size + 1) scope.names (cloFrom X.env.cells scope.names [])) (D :: fp) I3 (fun b hb => (f3 b hb).1)
  show codeAny _ _ (.compStart (.ListComp elt [⟨tg, iter, ifs, 0⟩] scope pos) 0 (.ref it) (.ref D) (compEnvC scope (cellsFrom (s3.heap.objs.size + 1) scope.names (cloFrom X.env.cells scope.names [])) s3.heap.objs.size X.env)) (compPost (model X.prog X.w) X.A X.xe use Qf (.ref D) s3.heap.objs.size) { s3 with heap := pushCells (s3.heap.push { cls := .type "dict", data := .dict #[] }) scope.names }
  generalize hce : compEnvC scope (cellsFrom (s3.heap.objs.size + 1) scope.names (cloFrom X.env.cells scope.names [])) s3.heap.objs.size X.env = ce at I4 pg pt pe ⊢
  have cL : ce.locals = s3.heap.objs.size := by subst hce; rfl
  generalize hs4 : ({ s3 with heap := pushCells (s3.heap.push { cls := .type "dict", data := .dict #[] }) scope.names } : Shared) = s4 at I4 ⊢
  have k34 : ∀ b o, s3.heap.get? b = some o → s4.heap.get? b = some o := fun b o e => by rw [← hs4]; exact pushCells_keeps _ _ _ _ (Heap.get?_push_of_some _ e)
  have st4 : tn 0 s4.heap := T.keep _ _ _ st3 fun b _ o e => k34 b o e
  obtain ⟨c3, eD⟩ := eD
  have Dfp : D ∉ fp := fun z => Nat.lt_irrefl _ (sz D z)
  have G4 : GSt (X.blk s3 H2 scope ce (D :: fp)) fp [D] (L2.wipe σ (own.map (·.2))) H2 s4 := ⟨I4, fun b hb => (f2 b hb).1, fun b hb => by
    rw [List.mem_singleton.mp hb]
    exact ⟨h2D, .inl List.mem_cons_self, by rw [cL]; exact Nat.ne_of_lt hD3, Dfp, _, k34 _ _ eD, fun v e => by cases e⟩⟩
  have td := turnD (W := W) (Q := Q) (chk := chkAll) (fin := fin) (Rp := RpLst D) a1 iok (vs := own.map (·.2)) (g := g) (t := t) (fe := fe)
  have hDm : D ∈ [D] := by simp
  have hex : ∀ b ∈ fp, b ∈ (X.blk s3 H2 scope ce (D :: fp)).ex := fun b hb => List.mem_cons_of_mem _ hb
  have loop : codeAny (model X.prog X.w) X.A (.compLoop (.ListComp elt [⟨tg, iter, ifs, 0⟩] scope pos) 0 (.ref it) (.ref D) ce) (compPost (model X.prog X.w) X.A X.xe use Qf (.ref D) s3.heap.objs.size) s4 := by
    refine compLoop_any (fun n s' => ∃ i H', GSt (X.blk s3 H2 scope ce (D :: fp)) fp [D] (L2.wipe σ (own.map (·.2))) H' s' ∧ tn i s'.heap ∧ StD G W Q (bodG (own.map (·.2)) g t fe σd) chkAll fin (RpLst D) ds μ1 S1 H2 (vw [D] s') i n H') ?_ ds.length
      ⟨0, H2, G4, st4, StD.first a1.lnk ⟨#[], c3, by rw [vw_at hDm]; exact k34 _ _ eD, Nat.zero_le _, .nil⟩ q⟩
    rintro n s5 ⟨i, H5, G5, st5, w5⟩
    have I5 := G5.inv
    have Iw : Inv (X.blk s3 H2 scope ce (D :: fp)) ([] ++ pinsAt [D] s5.heap) (L2.wipe σ (own.map (·.2))) H5 s5 := I5.pinned (G5.fpw rfl) fun b hb => (G5.wsn b hb).2.2.2.2
    have Iw : Inv (X.blk s3 H2 scope ce (D :: fp)) (pinsAt [D] s5.heap) (L2.wipe σ (own.map (·.2))) H5 s5 := by simpa using Iw
    have back : ∀ {pl : List (Addr × Obj)} {H' : Hp} {s' : Shared}, Inv (X.blk s3 H2 scope ce (D :: fp)) (pinsAt [D] s5.heap ++ pl) (L2.wipe σ (own.map (·.2))) H' s' → (∀ b ∈ fp, H' b = none) → GSt (X.blk s3 H2 scope ce (D :: fp)) fp [D] (L2.wipe σ (own.map (·.2))) H' s' ∧ vw [D] s' = vw [D] s5 := fun {pl H' s'} I' hf => by
      have kp : ∀ b ∈ [D], ∀ o, s5.heap.get? b = some o → s'.heap.get? b = some o ∧ H' b = none := fun b hb o e =>
        let z := I'.pin (b, o) (List.mem_append_right _ (List.mem_append_left _ (mem_pinsAt hb e)))
        ⟨z.1, z.2.1⟩
      refine ⟨⟨I'.pins_of fun p hp => absurd hp (by simp), hf, fun b hb => ?_⟩, vw_same G5 fun b hb o e => (kp b hb o e).1⟩
      obtain ⟨_, q2, q3, q4, o, q5, q6⟩ := G5.wsn b hb
      obtain ⟨z1, z2⟩ := kp b hb o q5
      exact ⟨z2, q2, q3, q4, o, z1, q6⟩
    rcases td (vw [D] s5) i n H5 w5 with ⟨stop, fi⟩ | ⟨go, Nx, Gx, hNx, hGx, step⟩
    · refine thnF (T.done (X.blk s3 H2 scope ce (D :: fp)) rfl rfl rfl hc i _ s5 _ H5 (fun _ _ => False) Iw (G5.fpf rfl hex) st5 stop) fun r s6 ⟨hr, I6⟩ => ?_
      subst hr
      obtain ⟨G6, ew⟩ := back (pl := []) (by simpa using I6) G5.fpn
      obtain ⟨ys, us, S6, μ6, ⟨acc, c, e6, hz, rv⟩, rys, s16, p6⟩ := fi
      rw [← ew, vw_at hDm] at e6
      have I7 : Inv X pins σ H5 s6 := I3.call' (ch := D :: fp) G6.inv.os G6.inv.base G6.inv.hok G6.inv.bare fun b hb => let z := (f3 b hb).1; ⟨z.2.2.2.1, z.2.1, z.2.2.2.2.1, z.2.2.2.2.2⟩
      have n5 : H5 D = none := (G5.wsn D hDm).1
      have I8 := inv_track I7 (hDn n5) e6 rv hz
      have nC : (upd H5 D (.lst us)) s3.heap.objs.size = none := by
        rw [upd_ne (Nat.ne_of_gt hD3), ← cL]
        exact G6.inv.free
      obtain ⟨m, hn, _⟩ := G6.inv.loc
      have hn : s6.heap.Ns ce.locals m := hn
      rw [cL] at hn
      exact hRR D s3.heap.objs.size s6 m _ I8 (hf W Q μ6 S6 H5 ys us D s16.lnk rys p6 n5) hn (I3.fpOk (Nat.le_refl _) nC)
    · refine thnF (T.item (X.blk s3 H2 scope ce (D :: fp)) rfl rfl rfl hc i _ s5 _ H5 (fun _ _ => False) Iw (G5.fpf rfl hex) st5 go) fun r s6 ⟨u, hr, h6⟩ => ?_
      subst hr
      refine thnF h6 fun _ s7 ⟨x, H7, I7, r7, y7, st7, n7⟩ => ?_
      have I7' := I7.pinned (fp := fp) (fun b hb => ⟨n7 b hb, (G5.fpf rfl hex (h := s5.heap) b hb).2⟩) (T.obj _ _ st7)
      have fin9 : ∀ {σ' : L2.St} {s' : Shared} {H' : Hp}, Inv (X.blk s3 H2 scope ce (D :: fp)) (pinsAt [D] s5.heap ++ pinsAt fp s7.heap) σ' H' s' → L2.wipe σ' (own.map (·.2)) = L2.wipe σ (own.map (·.2)) → GSt (X.blk s3 H2 scope ce (D :: fp)) fp [D] (L2.wipe σ (own.map (·.2))) H' s' ∧ vw [D] s' = vw [D] s5 ∧ tn (i + 1) s'.heap := fun {σ' s' H'} I' hw => by
        have pin' : ∀ b ∈ fp, ∀ o, s7.heap.get? b = some o → s'.heap.get? b = some o ∧ H' b = none := fun b hb o e =>
          let z := I'.pin (b, o) (List.mem_append_right _ (List.mem_append_right _ (mem_pinsAt hb e)))
          ⟨z.1, z.2.1⟩
        have I3' : Inv (X.blk s3 H2 scope ce (D :: fp)) (pinsAt [D] s5.heap ++ pinsAt fp s7.heap) (L2.wipe σ (own.map (·.2))) H' s' := I'.weak (by rw [← hw, wipe_length]) fun j v e => by
          rw [← hw] at e
          exact (wipe_some e).1
        obtain ⟨G', ew⟩ := back I3' fun b hb => by
          obtain ⟨o, e, _⟩ := T.obj _ _ st7 b hb
          exact (pin' b hb o e).2
        exact ⟨G', ew, T.keep _ _ _ st7 fun b hb o e => (pin' b hb o e).1⟩
      refine thnF (pg.run _ s7 _ H7 x u _ I7' r7 (step x H7 y7)) fun _ s8 ⟨σ8, H8, I8, hw8, q8⟩ => ?_
      refine thnF (pt.run _ s8 σ8 H8 _ I8 ⟨hw8, q8⟩) fun b s9 ⟨H9, I9, q9⟩ => ?_
      cases b with
      | false =>
        obtain ⟨G9, ew, st9⟩ := fin9 I9 hw8
        obtain ⟨k', hk', w9⟩ := hNx H9 q9
        simp only [Bool.false_eq_true, if_false]
        exact ⟨k', hk', i + 1, H9, G9, st9, by rw [ew]; exact w9⟩
      | true =>
        have q9 : rdE G NoX fe σ8 H9 Gx := q9
        simp only [if_true]
        refine thnF (pe.run _ s9 σ8 H9 _ I9 ⟨hw8, q9⟩) fun z s10 ⟨yv, H10, I10, r10, q10⟩ => ?_
        obtain ⟨G10, ew, st10⟩ := fin9 I10 hw8
        obtain ⟨k', hk', e1, e2, ys, us, d, S10, μ10, ⟨acc, c, eo, hz, rv⟩, rys, rd, s110, pp⟩ := hGx yv H10 q10
        have hlen : ys.length < sizeLine ∧ Post G μ10 S10 H10 W (WQ G Q) (genL (bodG (own.map (·.2)) g t fe σd) chkAll fin (ys ++ [d]) (ds.drop (i + 1)) S10) := by
          unfold chkAll at pp
          by_cases hz : ys.length < sizeLine
          · rw [if_pos hz] at pp
            rcases pp with ⟨r, h, _⟩ | ⟨_, pp⟩
            · cases h
            · exact ⟨hz, pp⟩
          · rw [if_neg hz] at pp
            rcases pp with ⟨r, h, _⟩ | ⟨h, _⟩ <;> cases h
        rw [← ew, vw_at hDm] at eo
        have hacc : acc.size ≤ sizeLine := by
          have q1 : us.length = acc.toList.length := rv.length
          have q3 : acc.toList.length = acc.size := Array.length_toList
          omega
        refine append_at (hsz := hacc) eo fun h' sb eo' => ?_
        have oth : ∀ b o, b ≠ D → s10.heap.get? b = some o → h'.get? b = some o := fun b o hb e => (sb.2 b hb).trans e
        have G11 : GSt (X.blk s3 H2 scope ce (D :: fp)) fp [D] (L2.wipe σ (own.map (·.2))) H10 { s10 with heap := h' } := G10.turn (t' := s10.toks) rfl hDm oth ⟨_, eo', fun v e => by cases e⟩
        refine ⟨k', hk', i + 1, H10, G11, T.keep _ _ _ st10 fun b hb o e => oth b o (fun z => Dfp (by rw [← z]; exact hb)) e, e1, e2, _, us ++ [yv], S10, μ10, ⟨acc.push z, c + 1, by rw [vw_at hDm]; exact eo', by rw [List.length_append, ← rys.length]; exact hlen.1, ?_⟩, rys.append (show RVs G μ10 S10.n H10 [d] [yv] from ⟨_, _, rfl, rd, rfl⟩), s110, hlen.2⟩
        rw [Array.toList_push]
        exact rv.append (.cons r10 .nil)
  exact codeAny_compStart_list loop (T.self X.A 0 _ _ _ st4 loop)
/-- as a value -/
theorem se_lc (fin : List D → M D) (hc : X.calm = true) (hN : X.N.Nodup) (hf : FinL G fin) (hi : SI X G W tg iter fit) (ok : BlkOk X.N X.env.scope scope own) (pc : LPc X G scope (own.map (·.2)) tg elt ifs g t fe) (hs : ∀ x, foldedSetIterable iter X.env x = pure x := by intro _; rfl) :
    SE X G W (.ListComp elt [⟨tg, iter, ifs, 0⟩] scope pos) (genE fit (own.map (·.2)) g t fe chkAll fin) := by
  refine ⟨fun pins s σ H Q I h => ?_⟩
  rw [eval_ListComp]
  refine lcD hc hN hf I hi ok pc hs h fun D C s' m H' I' q hn f => ⟨m, hn, fun h'' sb => ?_⟩
  obtain ⟨f0, f1, f2, f3, f4, f5⟩ := f
  exact ⟨.ref D, H', I'.turned (t' := s'.toks) (fun b o hb e => (sb.2 b hb).trans e) f0 f1 f3 f4 f5, rfl, q⟩
/-- name = [..] on one line, the name a local -/
theorem ss_setLc (i : Nat) (fin : List D → M D) {y : Str} {py : Pos} {spos : Pos} (hc : X.calm = true) (hN : X.N.Nodup) (hf : FinL G fin) (hi : SI X G W tg iter fit) (ok : BlkOk X.N X.env.scope scope own) (pc : LPc X G scope (own.map (·.2)) tg elt ifs g t fe) (hy : X.N[i]? = some y := by rfl) (hyl : X.env.scope.names.lookup y = some .local := by rfl)
    (hsw : swapsWith (.ListComp elt [⟨tg, iter, ifs, 0⟩] scope pos) (some (.Name y py)) spos.line X.env = pure true := by rfl) (hs : ∀ x, foldedSetIterable iter X.env x = pure x := by intro _; rfl) :
    SS X G W (.Assign [.Name y py] (.ListComp elt [⟨tg, iter, ifs, 0⟩] scope pos) spos) (setS i (genE fit (own.map (·.2)) g t fe chkAll fin)) := by
  refine ⟨fun pins s σ H Dn I ⟨σd, S, μ, a, p⟩ => ?_⟩
  have h : rdE G W (genE fit (own.map (·.2)) g t fe chkAll fin) σ H (fun x H1 => Dn.nx (σ.set i (some x)) H1) :=
    rdE_bind (k := fun σ d => M.pure (Fl.nx (σ.set i (some d)))) a p fun d S1 μ1 H1 v s a1 r q => (Post.here (W := W) a1.lnk q) _ (a1.en.set r)
  rw [exec_Assign_Name_used _ _ _ _ hsw]
  refine wpAny_bind (wpAny_standAt (wpAny_bind ?_))
  show wpAny _ X.A (do let _ ← comprehension (.ListComp elt [⟨tg, iter, ifs, 0⟩] scope pos) scope X.env (firstIterPos [⟨tg, iter, ifs, 0⟩] pos) (newList []) false (eval iter X.env) (some (assign (.Name y py) X.env))) _ _ s
  refine wpAny_bind (wpAny_mono (lcD (Qf := fun _ s' => SP X pins Dn .next s') hc hN hf I hi ok pc hs h fun L C s' m H' I' q hn f => ?_) (fun _ s' hq => wpAny_pure (wpAny_pure hq)) fun _ _ x => x)
  show wpAny _ _ (assign (.Name y py) X.env (.ref L)) _ _ _
  refine wpAny_assign_Name (store_ok2 (v := V.ref L) I' hN hy (.inl hyl) rfl (fun s2 I2 ⟨a, sb, ha⟩ => ?_) (.inr hyl))
  obtain ⟨f0, f1, f2, f3, f4, f5⟩ := f
  have haC : C ≠ a := by
    rcases ha with z | z
    · rw [z]; exact f1
    · exact fun e => f4 y a z e.symm
  refine ⟨m, hn.sameBut sb haC, fun h3 sb3 => ?_⟩
  exact ⟨_, H', I2.turned (t' := s2.toks) (fun b o hb e => (sb3.2 b hb).trans e) f0 f1 f3 f4 f5, q⟩
end
end Fd

set_option Elab.async false
set_option linter.all false
set_option maxRecDepth 100000
set_option maxHeartbeats 1000000
namespace Fd
open PySem PySem.Spec PyProof.Rows L2
/-! ### built-ins by values -/
def itA (S : Sto) (d : D) : Option (List D) := (tupD d).or (seqL S d)
section
variable {G : Gx} {μ : Nat → Addr} {S : Sto} {H : Hp}
theorem itA_ok (L : Lnk G μ S H) {d : D} {v : V} {ds : List D} (r : RV G μ S.n H d v) (e : itA S d = some ds) : ∃ a vs, v = .ref a ∧ (SqL G.K H a vs ∨ SqT G.K H a vs) ∧ RVs G μ S.n H ds vs := by
  unfold itA at e
  cases e1 : tupD d with
  | some xs =>
    rw [e1] at e
    cases e
    obtain ⟨a, vs, h1, h2, h3⟩ := tupD_ok r e1
    exact ⟨a, vs, h1, .inr h2, h3⟩
  | none =>
    rw [e1] at e
    have e : seqL S d = some ds := e
    obtain ⟨a, vs, h1, h2, h3⟩ := seqL_ok L r e
    exact ⟨a, vs, h1, .inl (.inl h2), h3⟩
theorem rvs1 {d : D} {vs : List V} {n : Nat} (r : RVs G μ n H [d] vs) : ∃ v, vs = [v] ∧ RV G μ n H d v := by
  obtain ⟨v, r', e, h1, h2⟩ := r
  have h2 : r' = [] := h2
  subst h2 e
  exact ⟨v, rfl, h1⟩
theorem rvs2 {d e : D} {vs : List V} {n : Nat} (r : RVs G μ n H [d, e] vs) : ∃ v w, vs = [v, w] ∧ RV G μ n H d v ∧ RV G μ n H e w := by
  obtain ⟨v, r', e1, h1, h2⟩ := r
  obtain ⟨w, e2, h3⟩ := rvs1 h2
  subst e1 e2
  exact ⟨v, w, rfl, h1, h3⟩
end
section
variable {X : Cx} {G : Gx} {W : XK}
/-! ### len -/
theorem call_len_rd : CallR X (.builtin "len") (fun xs H Q => ∃ a kvs, xs = [V.ref a] ∧ Rd H a (.dK kvs) ∧ Q (.int (kvs.length : Int)) H) := by
  intro pins s σ H xs us Q I r h
  obtain ⟨a, kvs, rfl, e, q⟩ := h
  rw [Vals.ref1 r]
  exact d_len I e fun t s' I' => ⟨.int _, H, I', ⟨t, rfl⟩, q⟩
def lenC : List D → M D := fun ds S => match ds with
  | [d] => (match itA S d with
    | some xs => .ok (.int xs.length) S
    | none => (match d with
      | .str z => if z.length ≤ sizeLine then .ok (.int z.length) S else .stk
      | _ => (match dctD S d with
        | some (false, kvs) => .ok (.int kvs.length) S
        | _ => .stk)))
  | _ => .stk
theorem cd_len (hK : G.K = X.K) : CallD X G W (.builtin "len") lenC := by
  refine callR_imp (CallR.or call_len call_len_rd) fun vs H Q ⟨ds, S, μ, L, r, p⟩ => ?_
  unfold lenC at p
  match ds, r, p with
  | [d], r, p =>
    obtain ⟨v, rfl, rd⟩ := rvs1 r
    simp only at p
    cases e1 : itA S d with
    | some xs =>
      rw [e1] at p
      obtain ⟨a, us, rfl, h1, h2⟩ := itA_ok L rd e1
      rw [hK] at h1
      refine .inl ⟨_, us.length, rfl, ?_, (Post.here (W := W) L p) _ (by show V.int _ = V.int _; rw [h2.length])⟩
      exact h1.imp (fun z => ⟨us, z, rfl⟩) fun z => ⟨us, z, rfl⟩
    | none =>
      rw [e1] at p
      have go : (match dctD S d with | some (false, kvs) => R.ok (D.int kvs.length) S | _ => R.stk) = R.stk ∨ ∃ kvs, dctD S d = some (false, kvs) := by
        cases e2 : dctD S d with
        | none => exact .inl rfl
        | some q =>
          obtain ⟨t, kvs⟩ := q
          cases t
          · exact .inr ⟨kvs, rfl⟩
          · exact .inl rfl
      have fin : ∀ kvs, dctD S d = some (false, kvs) → Post G μ S H W (WQ G Q) (.ok (.int kvs.length) S) → ∃ a kvs, [v] = [V.ref a] ∧ Rd H a (.dK kvs) ∧ Q (.int (kvs.length : Int)) H := fun kvs e2 p => by
        obtain ⟨a, us, o, rfl, h2, h3, h4⟩ := dctD_ok L rd e2
        cases h3 with
        | k l => exact ⟨a, l, rfl, h2, (Post.here (W := W) L p) _ (by show V.int _ = V.int _; rw [h4.length, List.length_map])⟩
      cases d with
      | str z =>
        have rd : v = .str z := rd
        subst rd
        simp only at p
        by_cases hz : z.length ≤ sizeLine
        · rw [if_pos hz] at p
          exact .inl ⟨_, z.length, rfl, ⟨hz, rfl⟩, (Post.here (W := W) L p) _ rfl⟩
        · rw [if_neg hz] at p; exact p.elim
      | _ =>
        simp only at p
        rcases go with z | ⟨kvs, z⟩
        · rw [z] at p; exact p.elim
        · rw [z] at p
          exact .inr (fin kvs z p)
  | [], _, p => exact p.elim
  | _ :: _ :: _, _, p => exact p.elim
/-! ### numbers and texts -/
def absC : List D → M D := fun ds => match ds with
  | [.int i] => M.pure (.int (if i < 0 then -i else i))
  | _ => M.stk
theorem cd_abs : CallD X G W (.builtin "abs") absC := callR_imp call_abs fun vs H Q ⟨ds, S, μ, L, r, p⟩ => by
  unfold absC at p
  split at p
  · obtain ⟨v, rfl, rd⟩ := rvs1 r
    exact ⟨_, by rw [show v = .int _ from rd], (Post.here (W := W) L p) _ rfl⟩
  · exact p.elim
def intC : List D → M D := fun ds => match ds with
  | [.int i] => M.pure (.int i)
  | [.bl k] => M.pure (.int (if k then 1 else 0))
  | _ => M.stk
theorem cd_int : CallD X G W (.type "int") intC := callR_imp call_int1 fun vs H Q ⟨ds, S, μ, L, r, p⟩ => by
  unfold intC at p
  split at p
  · obtain ⟨v, rfl, rd⟩ := rvs1 r
    exact .inl ⟨_, by rw [show v = .int _ from rd], (Post.here (W := W) L p) _ rfl⟩
  · obtain ⟨v, rfl, rd⟩ := rvs1 r
    exact .inr ⟨_, by rw [show v = .bl _ from rd], (Post.here (W := W) L p) _ rfl⟩
  · exact p.elim
def strC : List D → M D := fun ds => match ds with
  | [.int i] => if i.natAbs.log2 < 1920 then M.pure (.str (toString i)) else M.stk
  | _ => M.stk
theorem cd_str : CallD X G W (.type "str") strC := callR_imp call_str_int fun vs H Q ⟨ds, S, μ, L, r, p⟩ => by
  unfold strC at p
  split at p
  · rename_i i
    obtain ⟨v, rfl, rd⟩ := rvs1 r
    by_cases h : i.natAbs.log2 < 1920
    · rw [if_pos h] at p
      exact ⟨i, by rw [show v = .int _ from rd], h, (Post.here (W := W) L p) _ rfl⟩
    · rw [if_neg h] at p; exact p.elim
  · exact p.elim
def min2C : List D → M D := fun ds => match ds with
  | [.int i, .int j] => M.pure (.int (if j < i then j else i))
  | _ => M.stk
def max2C : List D → M D := fun ds => match ds with
  | [.int i, .int j] => M.pure (.int (if j > i then j else i))
  | _ => M.stk
theorem cd_min2 (hc : X.calm = true) : CallD X G W (.builtin "min") min2C := callR_imp (call_min2 hc) fun vs H Q ⟨ds, S, μ, L, r, p⟩ => by
  unfold min2C at p
  split at p
  · obtain ⟨v, w, rfl, r1, r2⟩ := rvs2 r
    exact ⟨_, _, by rw [show v = .int _ from r1, show w = .int _ from r2], (Post.here (W := W) L p) _ rfl⟩
  · exact p.elim
theorem cd_max2 (hc : X.calm = true) : CallD X G W (.builtin "max") max2C := callR_imp (call_max2 hc) fun vs H Q ⟨ds, S, μ, L, r, p⟩ => by
  unfold max2C at p
  split at p
  · obtain ⟨v, w, rfl, r1, r2⟩ := rvs2 r
    exact ⟨_, _, by rw [show v = .int _ from r1, show w = .int _ from r2], (Post.here (W := W) L p) _ rfl⟩
  · exact p.elim
def allInts (ds : List D) : Bool := ds.all fun d => match d with
  | .int _ => true
  | _ => false
theorem rvs_ints {μ : Nat → Addr} {n : Nat} {H : Hp} : ∀ {ds : List D} {vs : List V}, RVs G μ n H ds vs → allInts ds = true → vs = (ds.map dI).map V.int
  | [], _, h, _ => h
  | d :: ds, _, ⟨v, r, e, h1, h2⟩, ha => by
    unfold allInts at ha
    rw [List.all_cons, Bool.and_eq_true] at ha
    subst e
    rw [List.map_cons, List.map_cons, ← rvs_ints h2 ha.2]
    cases d with
    | int i => rw [show v = .int i from h1]; rfl
    | _ => exact absurd ha.1 Bool.false_ne_true
def sumC : List D → M D := fun ds S => match ds with
  | [d] => (match seqL S d with
    | some xs => if allInts xs = true then .ok (.int (xs.map dI).sum) S else .stk
    | none => .stk)
  | _ => .stk
theorem cd_sum (hc : X.calm = true) : CallD X G W (.builtin "sum") sumC := callR_imp (cr_sum hc) fun vs H Q ⟨ds, S, μ, L, r, p⟩ => by
  unfold sumC at p
  match ds, r, p with
  | [d], r, p =>
    obtain ⟨v, rfl, rd⟩ := rvs1 r
    simp only at p
    cases e1 : seqL S d with
    | none => rw [e1] at p; exact p.elim
    | some xs =>
      rw [e1] at p
      by_cases h : allInts xs = true
      · simp only [h, if_true] at p
        obtain ⟨a, us, rfl, h1, h2⟩ := seqL_ok L rd e1
        rw [rvs_ints h2 h] at h1
        exact ⟨a, xs.map dI, rfl, .inl h1, (Post.here (W := W) L p) _ rfl⟩
      · simp only [h, if_false] at p; exact p.elim
  | [], _, p => exact p.elim
  | _ :: _ :: _, _, p => exact p.elim
/-! ### list, tuple, dict -/
def listC (own : Bool) : List D → M D := fun ds S => match ds with
  | [d] => (match itA S d with
    | some xs => if own = true then newL xs S else .ok (.lst xs) S
    | none => (match dctD S d with
      | some (false, kvs) => if own = true then newL (kvs.map fun p => dkD p.1) S else .ok (.lst (kvs.map fun p => dkD p.1)) S
      | _ => .stk))
  | _ => .stk
theorem mk_lst {μ : Nat → Addr} {S : Sto} {H : Hp} {Q : VK} (L : Lnk G μ S H) {own : Bool} {ds : List D} {vs : List V} (r : RVs G μ S.n H ds vs) (p : Post G μ S H W (WQ G Q) ((if own = true then newL ds S else .ok (.lst ds) S))) : ∀ l, H l = none → Q (.ref l) (upd H l (.lst vs)) := fun l hl => by
  cases own with
  | true => exact Post.step (own_lst L hl r) p _ rv_own
  | false => exact Post.step (Stp.new L hl) p _ (new_lst L hl r)
theorem rvs_keys {μ : Nat → Addr} {n : Nat} {H : Hp} : ∀ {kvs : List (DK × D)} {l : List (Key × V)}, RVk G μ n H kvs (l.map fun p => (DK.k p.1, p.2)) → RVs G μ n H (kvs.map fun p => dkD p.1) (l.map fun kv => kV kv.1)
  | [], [], _ => rfl
  | [], _ :: _, h => by cases (show _ = _ from h)
  | (k, d) :: kvs, [], ⟨v, r, e, _⟩ => by cases e
  | (k, d) :: kvs, (k', v') :: l, ⟨v, r, e, h1, h2⟩ => by
    rw [List.map_cons] at e
    injection e with e1 e2
    injection e1 with e3 e4
    subst e2 e3
    refine ⟨kV k', l.map fun kv => kV kv.1, rfl, ?_, rvs_keys h2⟩
    cases k' <;> rfl
theorem cd_list (own : Bool) (hK : G.K = X.K) (hc : X.calm = true) : CallD X G W (.type "list") (listC own) := by
  refine callR_imp (CallR.or call_list_of (call_listD hc)) fun vs H Q ⟨ds, S, μ, L, r, p⟩ => ?_
  unfold listC at p
  match ds, r, p with
  | [d], r, p =>
    obtain ⟨v, rfl, rd⟩ := rvs1 r
    simp only at p
    cases e1 : itA S d with
    | some xs =>
      rw [e1] at p
      obtain ⟨a, us, rfl, h1, h2⟩ := itA_ok L rd e1
      rw [hK] at h1
      exact .inl ⟨a, us, rfl, h1, mk_lst L h2 p⟩
    | none =>
      rw [e1] at p
      cases e2 : dctD S d with
      | none => rw [e2] at p; exact p.elim
      | some q =>
        obtain ⟨t, kvs⟩ := q
        cases t with
        | true => rw [e2] at p; exact p.elim
        | false =>
          rw [e2] at p
          obtain ⟨a, us, o, rfl, h2, h3, h4⟩ := dctD_ok L rd e2
          cases h3 with
          | k l => exact .inr ⟨a, l, rfl, h2, mk_lst L (rvs_keys h4) p⟩
  | [], _, p => exact p.elim
  | _ :: _ :: _, _, p => exact p.elim
def tupC : List D → M D := fun ds S => match ds with
  | [d] => (match tupD d with
    | some _ => .ok d S
    | none => (match seqL S d with
      | some xs => .ok (.tup xs) S
      | none => .stk))
  | _ => .stk
theorem cd_tup (hK : G.K = X.K) : CallD X G W (.type "tuple") tupC := by
  refine callR_imp call_tuple_of fun vs H Q ⟨ds, S, μ, L, r, p⟩ => ?_
  unfold tupC at p
  match ds, r, p with
  | [d], r, p =>
    obtain ⟨v, rfl, rd⟩ := rvs1 r
    simp only at p
    cases e1 : tupD d with
    | some xs =>
      rw [e1] at p
      obtain ⟨a, us, rfl, h1, h2⟩ := tupD_ok rd e1
      rw [hK] at h1
      exact ⟨a, us, rfl, .inr ⟨h1, (Post.here (W := W) L p) _ rd⟩⟩
    | none =>
      rw [e1] at p
      cases e2 : seqL S d with
      | none => rw [e2] at p; exact p.elim
      | some xs =>
        rw [e2] at p
        obtain ⟨a, us, rfl, h1, h2⟩ := seqL_ok L rd e2
        exact ⟨a, us, rfl, .inl ⟨.inl h1, fun l hl => Post.step (Stp.new L hl) p _ (new_tup L hl h2)⟩⟩
  | [], _, p => exact p.elim
  | _ :: _ :: _, _, p => exact p.elim
end
end Fd

set_option Elab.async false
set_option linter.all false
set_option maxRecDepth 100000
set_option maxHeartbeats 1000000
namespace Fd
open PySem PySem.Spec PyProof.Rows L2
/-! ### sorted, min, max of data -/
def pysD (S : Sto) (ds : List D) : Option (List PyData) := ds.mapM (toPy S 12)
def alikeC (ps : List PyData) : Bool := ps.all fun a => ps.all fun b => PySem.W.alike a b
def isNonP : PyData → Bool
  | .none => true
  | _ => false
def tupN : PyData → Bool
  | .tuple (_ :: _) => true
  | _ => false
def tupAny : PyData → Bool
  | .tuple _ => true
  | _ => false
def sortableC (ps : List PyData) : Bool := ps.all tupN || ps.all fun d => !isNonP d && !tupAny d
theorem sortable_of {ps : List PyData} (h : sortableC ps = true) : PySem.W.Sortable ps := by
  unfold sortableC at h
  rw [Bool.or_eq_true, List.all_eq_true, List.all_eq_true] at h
  refine h.imp (fun z d hd => ?_) fun z d hd => ?_
  · have q := z d hd
    cases d with
    | tuple xs =>
      cases xs with
      | nil => cases q
      | cons x r => exact ⟨x, r, rfl⟩
    | _ => cases q
  · have q := z d hd
    rw [Bool.and_eq_true] at q
    refine ⟨fun e => ?_, fun xs e => ?_⟩
    · rw [e] at q; exact absurd q.1 Bool.false_ne_true
    · rw [e] at q; exact absurd q.2 Bool.false_ne_true
theorem alike_of {ps : List PyData} (h : alikeC ps = true) : PySem.W.AllAlike ps := fun d hd d' hd' => by
  unfold alikeC at h
  rw [List.all_eq_true] at h
  have q := h d hd
  rw [List.all_eq_true] at q
  exact q d' hd'
section
variable {G : Gx} {μ : Nat → Addr} {S : Sto} {H : Hp}
theorem depth_mem {d : PyData} : ∀ {ps : List PyData}, d ∈ ps → d.depth ≤ PyData.depthAll ps
  | p :: ps, h => by
    show d.depth ≤ max p.depth (PyData.depthAll ps)
    rcases List.mem_cons.mp h with z | z
    · rw [z]; exact Nat.le_max_left _ _
    · exact Nat.le_trans (depth_mem z) (Nat.le_max_right _ _)
/-- the data, their readings, their values, together -/
theorem data_rows {X : Cx} {pins : List (Addr × Obj)} {σ : L2.St} {s : Shared} (hK : G.K = X.K) (I : Inv X pins σ H s) (L : Lnk G μ S H) : ∀ {ds : List D} {vs : List V} {us : List Value} {ps : List PyData}, RVs G μ S.n H ds vs → Vals vs us → pysD S ds = some ps →
    ds.length = ps.length ∧ (ds.zip ps).length = vs.length ∧ PySem.W.EachIs (fun u (b : (D × PyData) × V) => RelV b.2 u) us ((ds.zip ps).zip vs) ∧ PySem.W.EachIs (fun u (b : (D × PyData) × V) => ∃ as, Reads s.heap u b.1.2 as) us ((ds.zip ps).zip vs) ∧ ∀ b ∈ (ds.zip ps).zip vs, RV G μ S.n H b.1.1 b.2 ∧ b.1.2.depth ≤ 12
  | [], vs, us, ps, r, rv, e => by
    have r : vs = [] := r
    subst r
    cases rv
    unfold pysD at e
    rw [List.mapM_nil] at e
    cases e
    exact ⟨rfl, rfl, .nil, .nil, fun b hb => absurd hb (by simp)⟩
  | d :: ds, _, us, ps, ⟨v, r', e1, h1, h2⟩, rv, e => by
    subst e1
    unfold pysD at e
    rw [List.mapM_cons] at e
    cases e3 : toPy S 12 d with
    | none => rw [e3] at e; cases e
    | some p =>
      cases e4 : ds.mapM (toPy S 12) with
      | none => rw [e3, e4] at e; cases e
      | some qs =>
        rw [e3, e4] at e
        have e : some (p :: qs) = some ps := e
        cases e
        cases rv with
        | cons ru rr =>
          obtain ⟨i1, i2, i3, i4, i5⟩ := data_rows hK I L h2 rr (show pysD S ds = some qs from e4)
          obtain ⟨a1, a2, a3⟩ := toPy_ok L 12 d v p h1 e3
          rw [hK] at a1
          obtain ⟨as, ra⟩ := Dp.reads I p v _ a1 ru
          refine ⟨by rw [List.length_cons, List.length_cons, i1], by rw [List.zip_cons_cons, List.length_cons, List.length_cons, i2], .cons ru i3, .cons ⟨as, ra⟩ i4, fun b hb => ?_⟩
          rw [List.zip_cons_cons, List.zip_cons_cons] at hb
          rcases List.mem_cons.mp hb with z | z
          · rw [z]; exact ⟨h1, a3⟩
          · exact i5 b z
theorem each_vals : ∀ {out : List Value} {bs : List ((D × PyData) × V)}, PySem.W.EachIs (fun u (b : (D × PyData) × V) => RelV b.2 u) out bs → Vals (bs.map (·.2)) out
  | _, _, .nil => .nil
  | _, _, .cons h t => .cons h (each_vals t)
theorem rows_rvs : ∀ {bs : List ((D × PyData) × V)}, (∀ b ∈ bs, RV G μ S.n H b.1.1 b.2) → RVs G μ S.n H (bs.map (·.1.1)) (bs.map (·.2))
  | [], _ => rfl
  | b :: bs, h => ⟨b.2, bs.map (·.2), rfl, h b List.mem_cons_self, rows_rvs fun c hc => h c (List.mem_cons_of_mem _ hc)⟩
theorem zip_fst {α β : Type} : ∀ {as : List α} {bs : List β}, as.length = bs.length → (as.zip bs).map (·.1) = as
  | [], _, _ => rfl
  | a :: as, [], h => by cases h
  | a :: as, b :: bs, h => by
    rw [List.zip_cons_cons, List.map_cons, zip_fst (Nat.succ.inj h)]
end
/-- a stable sort by insertion -/
def insS {α : Type} (le : α → α → Bool) (a : α) : List α → List α
  | [] => [a]
  | b :: l => if le a b = true then a :: b :: l else b :: insS le a l
def isort {α : Type} (le : α → α → Bool) : List α → List α
  | [] => []
  | a :: l => insS le a (isort le l)
theorem insS_at {α : Type} {le : α → α → Bool} {a : α} {l₂ : List α} (h2 : ∀ b ∈ l₂, le a b = true) : ∀ {l₁ : List α}, (∀ b ∈ l₁, le a b = false) → insS le a (l₁ ++ l₂) = l₁ ++ a :: l₂
  | [], _ => by
    cases l₂ with
    | nil => rfl
    | cons b l => show (if le a b = true then a :: b :: l else _) = _; rw [if_pos (h2 b List.mem_cons_self)]; rfl
  | b :: l, h => by
    show (if le a b = true then _ else b :: insS le a (l ++ l₂)) = _
    rw [h b List.mem_cons_self, if_neg Bool.false_ne_true, insS_at h2 fun c hc => h c (List.mem_cons_of_mem _ hc)]
    rfl
theorem isort_eq {α : Type} {le : α → α → Bool} (tr : ∀ a b c, le a b = true → le b c = true → le a c = true) (to : ∀ a b, (le a b || le b a) = true) : ∀ l : List α, l.mergeSort le = isort le l
  | [] => List.mergeSort_nil
  | a :: l => by
    obtain ⟨l₁, l₂, h1, h2, h3⟩ := List.mergeSort_cons (le := le) tr to a l
    have hs := List.pairwise_mergeSort (le := le) tr to (a :: l)
    rw [h1] at hs ⊢
    show _ = insS le a (isort le l)
    rw [← isort_eq tr to l, h2]
    refine (insS_at (fun b hb => ?_) fun b hb => by simpa using h3 b hb).symm
    exact (List.pairwise_cons.mp (List.pairwise_append.mp hs).2.1).1 b hb
def leP (a b : D × PyData) : Bool := !PySem.W.dataLt b.2 a.2
def sortP (l : List (D × PyData)) : List D := (isort leP l).map (·.1)
theorem sortP_eq (l : List (D × PyData)) : (l.mergeSort fun a b => !PySem.W.dataLt b.2 a.2).map (·.1) = sortP l := by
  have e := isort_eq (le := leP) (fun a b c h1 h2 => by
    unfold leP at *
    cases h : PySem.W.dataLt c.2 a.2 with
    | false => rfl
    | true =>
      rcases PyProof.Rows.lex_negTrans (O := PyProof.Rows.itemOrd) _ (PySem.W.keyToks b.2) _ h with z | z
      · have z : PySem.W.dataLt c.2 b.2 = true := z
        rw [z] at h2; cases h2
      · have z : PySem.W.dataLt b.2 a.2 = true := z
        rw [z] at h1; cases h1) (fun a b => by
    unfold leP
    cases h1 : PySem.W.dataLt b.2 a.2 with
    | false => rfl
    | true =>
      cases h2 : PySem.W.dataLt a.2 b.2 with
      | false => rfl
      | true =>
        have := PyProof.Rows.lex_trans (O := PyProof.Rows.itemOrd) _ _ _ h1 h2
        rw [PyProof.Rows.lex_irrefl] at this
        cases this) l
  unfold sortP
  rw [← e]
  rfl
def sortedC (own : Bool) : List D → M D := fun ds S => match ds with
  | [d] => (match seqL S d with
    | some xs => (match pysD S xs with
      | some ps => if (alikeC ps && sortableC ps) = true then (if own = true then newL (sortP (xs.zip ps)) S else .ok (.lst (sortP (xs.zip ps))) S) else .stk
      | none => .stk)
    | none => .stk)
  | _ => .stk
section
variable {X : Cx} {G : Gx} {W : XK}
theorem cd_sorted (own : Bool) (hK : G.K = X.K) (hu : X.A.units + 64 < cLine) : CallD X G W (.builtin "sorted") (sortedC own) := by
  intro pins s σ H vs us Q I rv ⟨ds, S, μ, L, r, p⟩
  unfold sortedC at p
  match ds, r, p with
  | [d], r, p =>
    obtain ⟨v, rfl, rd⟩ := rvs1 r
    simp only at p
    cases e1 : seqL S d with
    | none => rw [e1] at p; exact p.elim
    | some xs =>
      rw [e1] at p
      simp only at p
      cases e2 : pysD S xs with
      | none => rw [e2] at p; exact p.elim
      | some ps =>
        rw [e2] at p
        simp only at p
        by_cases hc : (alikeC ps && sortableC ps) = true
        · rw [if_pos hc] at p
          rw [Bool.and_eq_true] at hc
          obtain ⟨a, ws, rfl, h1, h2⟩ := seqL_ok L rd e1
          rw [Vals.ref1 rv]
          obtain ⟨its, rw', hl, hz⟩ := I.list (X := X) (H := H) (a := a) (xs := ws) (.inl h1)
          obtain ⟨i1, i2, i3, i4, i5⟩ := data_rows hK I L h2 rw' e2
          have hmap : ((xs.zip ps).zip ws).map (·.1) = xs.zip ps := zip_fst i2
          have hps : ((xs.zip ps).zip ws).map (fun b => b.1.2) = ps := by
            have : ((xs.zip ps).zip ws).map (fun b => b.1.2) = (((xs.zip ps).zip ws).map (·.1)).map (·.2) := by rw [List.map_map]; rfl
            rw [this, hmap, List.map_snd_zip (Nat.le_of_eq i1.symm)]
          have hlen : ((xs.zip ps).zip ws).length = ws.length := by rw [List.length_zip, i2, Nat.min_self]
          refine PySem.W.sorted_data (R := fun u b => RelV b.2 u) (enc := fun b : (D × PyData) × V => b.1.2) (bs := (xs.zip ps).zip ws) hl.isList i3 i4 (by rw [hps]; exact alike_of hc.1) (by rw [hps]; exact sortable_of hc.2) (by rw [hlen]; exact hz) (fun b hb => by have := (i5 b hb).2; omega) fun out ho eo => ?_
          generalize hbs : ((xs.zip ps).zip ws).mergeSort (PySem.W.dataLe false fun b : (D × PyData) × V => b.1.2) = bs at eo
          have hmem : ∀ b ∈ bs, b ∈ (xs.zip ps).zip ws := fun b hb => by
            rw [← hbs] at hb
            exact List.mem_mergeSort.mp hb
          have hsort : bs.map (·.1.1) = sortP (xs.zip ps) := by
            have e5 : bs.map (·.1.1) = (bs.map (·.1)).map (·.1) := by rw [List.map_map]; rfl
            have e7 := List.map_mergeSort (r := PySem.W.dataLe false fun b : (D × PyData) × V => b.1.2) (s := fun a b : D × PyData => !PySem.W.dataLt b.2 a.2) (f := fun b : (D × PyData) × V => b.1) (l := (xs.zip ps).zip ws) (fun a _ b _ => rfl)
            rw [e5, ← hbs, e7, hmap]
            exact sortP_eq _
          have rr : RVs G μ S.n H (sortP (xs.zip ps)) (bs.map (·.2)) := by
            rw [← hsort]
            exact rows_rvs fun b hb => (i5 b (hmem b hb)).1
          obtain ⟨c, hat⟩ := sortedAll_at s.heap its (List.toArray out)
          have hn : H (s.heap.objs.size + 1) = none := I.hok.fresh (Nat.le_succ _)
          have hvv := each_vals eo
          refine ⟨.ref (s.heap.objs.size + 1), upd H (s.heap.objs.size + 1) (.lst (bs.map (·.2))), ?_, rfl, mk_lst L rr p _ hn⟩
          exact I.laid (t' := s.toks) (fun b o e => sortedAll_old e) (Nat.le_succ _) ⟨by rw [List.length_map, ← hbs, List.length_mergeSort, hlen]; exact hz, out, c, hvv, hat⟩
        · rw [if_neg hc] at p; exact p.elim
  | [], _, p => exact p.elim
  | _ :: _ :: _, _, p => exact p.elim
/-! ### min, max -/
def bestP (f : PyData → PyData → Bool) : List (D × PyData) → Option D
  | [] => none
  | x :: xs => some (xs.foldl (fun a y => if f y.2 a.2 = true then y else a) x).1
def bestC (f : PyData → PyData → Bool) : List D → M D := fun ds S => match ds with
  | [d] => (match seqL S d with
    | some xs => (match pysD S xs with
      | some ps => if (alikeC ps && !ps.any isNonP) = true then (match bestP f (xs.zip ps) with
        | some d => .ok d S
        | none => .stk) else .stk
      | none => .stk)
    | none => .stk)
  | _ => .stk
def gtP : PyData → PyData → Bool := fun a b => PySem.W.dataLt b a
theorem alikeAll_of {ps : List PyData} (h : (alikeC ps && !ps.any isNonP) = true) : PySem.W.AlikeAll ps := by
  rw [Bool.and_eq_true] at h
  refine ⟨alike_of h.1, fun x hx e => ?_⟩
  have q := h.2
  rw [Bool.not_eq_true', List.any_eq_false] at q
  exact q x hx (by rw [e]; rfl)
theorem getD_zip (xs : List D) (ps : List PyData) (h : xs.length = ps.length) (i : Nat) : ((xs.zip ps).getD i (.non, .none)).2 = ps.getD i .none ∧ ((xs.zip ps).getD i (.non, .none)).1 = xs.getD i .non := by
  induction xs generalizing ps i with
  | nil =>
    cases ps with
    | nil => exact ⟨rfl, rfl⟩
    | cons _ _ => cases h
  | cons x xs ih =>
    cases ps with
    | nil => cases h
    | cons p ps =>
      cases i with
      | zero => exact ⟨rfl, rfl⟩
      | succ i => exact ih ps (Nat.succ.inj h) i
theorem each_reads {h : Heap} : ∀ {us : List Value} {bs : List ((D × PyData) × V)}, PySem.W.EachIs (fun u (b : (D × PyData) × V) => ∃ as, Reads h u b.1.2 as) us bs → ∃ as, ReadsAll h us (bs.map (·.1.2)) as
  | _, _, .nil => ⟨_, .nil⟩
  | _, _, .cons ⟨as, h⟩ t => let ⟨bs, q⟩ := each_reads t; ⟨_, .cons h q⟩
/-- what the best one is -/
theorem best_at (f : PyData → PyData → Bool) {xs : List D} {ps : List PyData} {x : D} (hl : xs.length = ps.length) (e : bestP f (xs.zip ps) = some x) : 0 < ps.length ∧ xs[PySem.argBest (fun i j => f (ps.getD i .none) (ps.getD j .none)) (ps.length - 1)]? = some x := by
  cases xs with
  | nil => cases e
  | cons y ys =>
    cases ps with
    | nil => cases hl
    | cons p ps =>
      have hl' : ys.length = ps.length := Nat.succ.inj hl
      have hlz : (ys.zip ps).length = ps.length := by rw [List.length_zip, hl', Nat.min_self]
      refine ⟨Nat.succ_pos _, ?_⟩
      have q := PySem.W.argBest_fold (fun a b : D × PyData => f a.2 b.2) (.non, .none) (y, p) (ys.zip ps) ps.length (Nat.le_of_eq hlz.symm)
      have hfun : (fun i j => f (((y, p) :: ys.zip ps).getD i (.non, .none)).2 (((y, p) :: ys.zip ps).getD j (.non, .none)).2) = fun i j => f ((p :: ps).getD i .none) ((p :: ps).getD j .none) := by
        funext i j
        rw [show (y, p) :: ys.zip ps = (y :: ys).zip (p :: ps) from rfl, (getD_zip (y :: ys) (p :: ps) hl i).1, (getD_zip (y :: ys) (p :: ps) hl j).1]
      rw [hfun] at q
      obtain ⟨q1, q2⟩ := q
      rw [show ps.length = (ys.zip ps).length from hlz.symm, List.take_length] at q2
      rw [hlz] at q2
      have e : some (((ys.zip ps).foldl (fun a z => if f z.2 a.2 = true then z else a) (y, p)).1) = some x := e
      rw [← q2] at e
      have e6 := (getD_zip (y :: ys) (p :: ps) hl (PySem.argBest (fun i j => f ((p :: ps).getD i .none) ((p :: ps).getD j .none)) ps.length)).2
      rw [show (y :: ys).zip (p :: ps) = (y, p) :: ys.zip ps from rfl] at e6
      rw [e6] at e
      show (y :: ys)[PySem.argBest _ (ps.length + 1 - 1)]? = some x
      rw [Nat.add_sub_cancel]
      have hlt : PySem.argBest (fun i j => f ((p :: ps).getD i .none) ((p :: ps).getD j .none)) ps.length < (y :: ys).length := by
        rw [List.length_cons, hl']
        exact Nat.lt_succ_of_le q1
      rw [List.getElem?_eq_getElem hlt]
      rw [List.getD_eq_getElem?_getD, List.getElem?_eq_getElem hlt] at e
      exact e
theorem cd_minD (hK : G.K = X.K) (hc : X.calm = true) (hu : X.A.units + 64 < cLine) : CallD X G W (.builtin "min") (bestC PySem.W.dataLt) := by
  intro pins s σ H vs us Q I rv ⟨ds, S, μ, L, r, p⟩
  unfold bestC at p
  match ds, r, p with
  | [d], r, p =>
    obtain ⟨v, rfl, rd⟩ := rvs1 r
    simp only at p
    cases e1 : seqL S d with
    | none => rw [e1] at p; exact p.elim
    | some xs =>
      rw [e1] at p
      simp only at p
      cases e2 : pysD S xs with
      | none => rw [e2] at p; exact p.elim
      | some ps =>
        rw [e2] at p
        simp only at p
        by_cases hcc : (alikeC ps && !ps.any isNonP) = true
        · rw [if_pos hcc] at p
          cases e3 : bestP PySem.W.dataLt (xs.zip ps) with
          | none => rw [e3] at p; exact p.elim
          | some x =>
            rw [e3] at p
            obtain ⟨a, ws, rfl, h1, h2⟩ := seqL_ok L rd e1
            rw [Vals.ref1 rv]
            obtain ⟨its, rw', hl, hz⟩ := I.list (X := X) (H := H) (a := a) (xs := ws) (.inl h1)
            obtain ⟨i1, i2, i3, i4, i5⟩ := data_rows hK I L h2 rw' e2
            obtain ⟨as, ra⟩ := each_reads i4
            have hps : ((xs.zip ps).zip ws).map (fun b => b.1.2) = ps := by
              have : ((xs.zip ps).zip ws).map (fun b => b.1.2) = (((xs.zip ps).zip ws).map (·.1)).map (·.2) := by rw [List.map_map]; rfl
              rw [this, zip_fst i2, List.map_snd_zip (Nat.le_of_eq i1.symm)]
            rw [hps] at ra
            obtain ⟨b1, b2⟩ := best_at PySem.W.dataLt i1 e3
            have hn : its.toArray.size = ps.length := by
              have := rw'.length
              have := h2.length
              rw [List.size_toArray]; omega
            have hdep : PyData.depthAll ps ≤ 12 := (toPys_ok (fun d v py => toPy_ok L 12 d v py) xs ws ps h2 e2).2.2
            refine PySem.call_min_walkH (PySem.W.iter_listW (A := X.A.in1) (I.ok.hd hc) hl.isList fun s₂ e W' st hfp hw hk => ?_)
            refine ⟨_, _, _, _, _, _, _, s.heap, _, rfl, W', st, hfp, by omega, hw, hk, PySem.W.cmpIn_lt (A := X.A.in1) ra (alikeAll_of hcc) (by show X.A.units + 1 + _ < _; omega), fun v s' hP m => ?_⟩
            obtain ⟨h', tk, rfl, hk'⟩ := PySem.W.moved_old e rfl m
            rw [hn] at hP
            obtain ⟨wv, ew, rwv⟩ := rvs_get h2 b2
            obtain ⟨uu, eu, ruu⟩ := rw'.get ew
            have hP : its.toArray[PySem.argBest (fun i j => PySem.W.dataLt (ps.getD i .none) (ps.getD j .none)) (ps.length - 1)]? = some v := hP
            rw [show its.toArray[PySem.argBest (fun i j => PySem.W.dataLt (ps.getD i .none) (ps.getD j .none)) (ps.length - 1)]? = its[PySem.argBest (fun i j => PySem.W.dataLt (ps.getD i .none) (ps.getD j .none)) (ps.length - 1)]? by simp, eu] at hP
            cases hP
            exact ⟨wv, H, I.kept hk', ruu, (Post.here (W := W) L p) wv rwv⟩
        · rw [if_neg hcc] at p; exact p.elim
  | [], _, p => exact p.elim
  | _ :: _ :: _, _, p => exact p.elim
theorem cd_maxD (hK : G.K = X.K) (hc : X.calm = true) (hu : X.A.units + 64 < cLine) : CallD X G W (.builtin "max") (bestC gtP) := by
  intro pins s σ H vs us Q I rv ⟨ds, S, μ, L, r, p⟩
  unfold bestC at p
  match ds, r, p with
  | [d], r, p =>
    obtain ⟨v, rfl, rd⟩ := rvs1 r
    simp only at p
    cases e1 : seqL S d with
    | none => rw [e1] at p; exact p.elim
    | some xs =>
      rw [e1] at p
      simp only at p
      cases e2 : pysD S xs with
      | none => rw [e2] at p; exact p.elim
      | some ps =>
        rw [e2] at p
        simp only at p
        by_cases hcc : (alikeC ps && !ps.any isNonP) = true
        · rw [if_pos hcc] at p
          cases e3 : bestP gtP (xs.zip ps) with
          | none => rw [e3] at p; exact p.elim
          | some x =>
            rw [e3] at p
            obtain ⟨a, ws, rfl, h1, h2⟩ := seqL_ok L rd e1
            rw [Vals.ref1 rv]
            obtain ⟨its, rw', hl, hz⟩ := I.list (X := X) (H := H) (a := a) (xs := ws) (.inl h1)
            obtain ⟨i1, i2, i3, i4, i5⟩ := data_rows hK I L h2 rw' e2
            obtain ⟨as, ra⟩ := each_reads i4
            have hps : ((xs.zip ps).zip ws).map (fun b => b.1.2) = ps := by
              have : ((xs.zip ps).zip ws).map (fun b => b.1.2) = (((xs.zip ps).zip ws).map (·.1)).map (·.2) := by rw [List.map_map]; rfl
              rw [this, zip_fst i2, List.map_snd_zip (Nat.le_of_eq i1.symm)]
            rw [hps] at ra
            obtain ⟨b1, b2⟩ := best_at gtP i1 e3
            have hn : its.toArray.size = ps.length := by
              have := rw'.length
              have := h2.length
              rw [List.size_toArray]; omega
            have hdep : PyData.depthAll ps ≤ 12 := (toPys_ok (fun d v py => toPy_ok L 12 d v py) xs ws ps h2 e2).2.2
            refine PySem.call_max_walkH (PySem.W.iter_listW (A := X.A.in1) (I.ok.hd hc) hl.isList fun s₂ e W' st hfp hw hk => ?_)
            refine ⟨_, _, _, _, _, _, _, s.heap, _, rfl, W', st, hfp, by omega, hw, hk, PySem.W.cmpIn_gt (A := X.A.in1) ra (alikeAll_of hcc) (by show X.A.units + 1 + _ < _; omega), fun v s' hP m => ?_⟩
            obtain ⟨h', tk, rfl, hk'⟩ := PySem.W.moved_old e rfl m
            rw [hn] at hP
            obtain ⟨wv, ew, rwv⟩ := rvs_get h2 b2
            obtain ⟨uu, eu, ruu⟩ := rw'.get ew
            have hP : its.toArray[PySem.argBest (fun i j => gtP (ps.getD i .none) (ps.getD j .none)) (ps.length - 1)]? = some v := hP
            rw [show its.toArray[PySem.argBest (fun i j => gtP (ps.getD i .none) (ps.getD j .none)) (ps.length - 1)]? = its[PySem.argBest (fun i j => gtP (ps.getD i .none) (ps.getD j .none)) (ps.length - 1)]? by simp, eu] at hP
            cases hP
            exact ⟨wv, H, I.kept hk', ruu, (Post.here (W := W) L p) wv rwv⟩
        · rw [if_neg hcc] at p; exact p.elim
  | [], _, p => exact p.elim
  | _ :: _ :: _, _, p => exact p.elim
end
end Fd

set_option Elab.async false
set_option linter.all false
set_option maxRecDepth 100000
set_option maxHeartbeats 1000000
namespace Fd
open PySem PySem.Spec PyProof.Rows L2
section
variable {X : Cx} {G : Gx} {W : XK} {a b c e : Expr} {fa fb fc fe : En → M D} {pos : Pos}
/-! ### a chain of two comparisons -/
def chainV (o1 o2 : D → D → M D) (fa fb fc : En → M D) : En → M D := fun σ => fa σ >>= fun x => fb σ >>= fun y => o1 x y >>= fun z => asB z >>= fun k => if k = true then (fc σ >>= fun w => o2 y w) else M.pure (.bl false)
theorem rd_chain {o1 o2 : D → D → M D} : ∀ σ H Q, rdE G W (chainV o1 o2 fa fb fc) σ H Q → tChain (rd2 G W o1) (rd2 G W o2) (rdE G W fa) (rdE G W fb) (rdE G W fc) σ H Q := fun σ H Q ⟨σd, S, μ, a0, h⟩ => by
  refine rdE_bind (k := fun σ x => fb σ >>= fun y => o1 x y >>= fun z => asB z >>= fun k => if k = true then (fc σ >>= fun w => o2 y w) else M.pure (.bl false)) a0 h fun x S1 μ1 H1 v s1 a1 rv p => ?_
  refine rdE_bind (k := fun σ y => o1 x y >>= fun z => asB z >>= fun k => if k = true then (fc σ >>= fun w => o2 y w) else M.pure (.bl false)) a1 p fun y S2 μ2 H2 u s2 a2 ru p => ?_
  refine ⟨x, y, S2, μ2, a2.lnk, s2.rv a1.lnk rv, ru, (Post.bind (k := fun z => asB z >>= fun k => if k = true then (fc σd >>= fun w => o2 y w) else M.pure (.bl false)) p).mono fun z S3 μ3 H3 s3 p w rz => ?_⟩
  have a3 := a2.step s3
  obtain ⟨k, e1, q⟩ := rd_asB (Q := fun k H3 => if k = true then rdE G W fc σ H3 (fun w' H4 => rd2 G W o2 u w' H4 Q) else Q (.bl false) H3) a3.lnk rz ((Post.bind (k := fun k => if k = true then (fc σd >>= fun w => o2 y w) else M.pure (.bl false)) p).mono fun k S4 μ4 H4 s4 p4 => by
    have a4 := a3.step s4
    cases k with
    | false => exact (Post.here a4.lnk p4) _ rfl
    | true =>
      refine rdE_bind (k := fun _ w => o2 y w) a4 p4 fun w S5 μ5 H5 wv s5 a5 rw' p5 => ?_
      exact ⟨y, w, S5, μ5, a5.lnk, (s4.trans s5).rv a3.lnk (s3.rv a2.lnk ru), rw', p5⟩)
  exact ⟨k, e1, q⟩
theorem se_chain {op op' : CmpOp} {o1 o2 : D → D → M D} (h1 : OpD X G W (compareOp op) o1) (h2 : OpD X G W (compareOp op') o2) (ha : SE X G W a fa) (hb : SE X G W b fb) (hc : SE X G W c fc) (hm : lastMarks [op, op'] [b, c] = false := by with_unfolding_all rfl) : SE X G W (.Compare a [op, op'] [b, c] pos) (chainV o1 o2 fa fb fc) :=
  pe_imp (pe_chain h1 h2 ha hb hc hm) rd_chain
theorem st_chain {op op' : CmpOp} {o1 o2 : D → D → M D} (h1 : OpD X G W (compareOp op) o1) (h2 : OpD X G W (compareOp op') o2) (ha : SE X G W a fa) (hb : SE X G W b fb) (hc : SE X G W c fc) (hm : lastMarks [op, op'] [b, c] = false := by with_unfolding_all rfl) : STe X G W (.Compare a [op, op'] [b, c] pos) (tst1 (chainV o1 o2 fa fb fc)) :=
  pt_imp (pt_chain h1 h2 ha hb hc hm) fun σ H Q ⟨σd, S, μ, a0, h⟩ => rd_chain σ H _ (rdE_bind (k := fun _ => asB) a0 h fun d S1 μ1 H1 v s a1 rv h1 => rd_asB a1.lnk rv h1)
/-! ### powers, repeated lists -/
def powI : D → D → M D := ii (fun i j => decide (-(2 ^ 64) < i ∧ i < 2 ^ 64) && decide (0 ≤ j) && decide (j ≤ 64)) fun i j => .int (i ^ j.toNat)
/-- a list times an int -/
def repL : D → D → M D := fun x y S => match seqU S x, y with
  | some xs, .int k => if -(2 ^ 63) ≤ k ∧ k < 2 ^ 63 ∧ xs.length * k.toNat ≤ sizeLine then .ok (.lst (List.replicate k.toNat xs).flatten) S else .stk
  | _, _ => .stk
theorem od_powI : OpD X G W (binaryOp .Pow) powI := opR_imp op_pow (rd_ii (fun i j h => by
  simp only [Bool.and_eq_true, decide_eq_true_eq] at h
  exact ⟨h.1.2, by omega, by omega⟩) fun _ _ _ _ _ => rfl)
theorem rvs_rep {μ : Nat → Addr} {n : Nat} {H : Hp} {ds : List D} {vs : List V} (r : RVs G μ n H ds vs) : ∀ k : Nat, RVs G μ n H (List.replicate k ds).flatten (List.replicate k vs).flatten
  | 0 => rfl
  | k + 1 => by
    rw [List.replicate_succ, List.replicate_succ, List.flatten_cons, List.flatten_cons]
    exact r.append (rvs_rep r k)
theorem od_repL : OpD X G W (binaryOp .Mult) repL := opR_imp op_rep fun x y H Q ⟨d, e, S, μ, L, r1, r2, p⟩ => by
  unfold repL at p
  cases e1 : seqU S d with
  | none => rw [e1] at p; exact p.elim
  | some xs =>
    rw [e1] at p
    cases e with
    | int k =>
      simp only at p
      by_cases h : -(2 ^ 63) ≤ k ∧ k < 2 ^ 63 ∧ xs.length * k.toNat ≤ sizeLine
      · rw [if_pos h] at p
        obtain ⟨aa, vs, rfl, h1, q1⟩ := seqU_ok L r1 e1
        exact ⟨aa, k, vs, rfl, r2, h1, h.1, h.2.1, by rw [← q1.length]; exact h.2.2, fun q hq => Post.step (Stp.new L hq) p _ (new_lst L hq (rvs_rep q1 _))⟩
      · rw [if_neg h] at p; exact p.elim
    | _ => exact p.elim
/-! ### slices -/
def cutD (ds : List D) (lo hi : Option Int) : List D := (ds.drop (HT.sIx ds.length 0 lo)).take (HT.sIx ds.length ds.length hi - HT.sIx ds.length 0 lo)
def partD (f : Option (En → M D)) : En → M (Option Int) := fun σ => match f with
  | none => M.pure none
  | some f => f σ >>= fun d => match d with
    | .int i => M.pure (some i)
    | _ => M.stk
/-- a list, the module's too -/
def seqK (S : Sto) (x : D) : Option (List D) := match x with
  | .kl ds => some ds
  | d => seqL S d
theorem seqK_ok {μ : Nat → Addr} {S : Sto} {H : Hp} (L : Lnk G μ S H) {d : D} {v : V} {ds : List D} (r : RV G μ S.n H d v) (e : seqK S d = some ds) : ∃ a vs, v = .ref a ∧ SqL G.K H a vs ∧ RVs G μ S.n H ds vs := by
  cases d with
  | kl es =>
    cases e
    obtain ⟨a, vs, h1, h2, h3⟩ := r
    exact ⟨a, vs, h1, .inr h2, h3⟩
  | lst es => obtain ⟨a, vs, h1, h2, h3⟩ := seqL_ok L r e; exact ⟨a, vs, h1, .inl h2, h3⟩
  | ref l => obtain ⟨a, vs, h1, h2, h3⟩ := seqL_ok L r e; exact ⟨a, vs, h1, .inl h2, h3⟩
  | _ => cases e
def sliceC (x : D) (lo hi : Option Int) : M D := fun S => match tupD x with
  | some ds => if HT.sIx ds.length 0 lo = 0 ∧ HT.sIx ds.length ds.length hi = ds.length then .ok x S else .ok (.tup (cutD ds lo hi)) S
  | none => (match seqK S x with
    | some ds => .ok (.lst (cutD ds lo hi)) S
    | none => .stk)
def sliceE (fe : En → M D) (fl fh : Option (En → M D)) : En → M D := fun σ => fe σ >>= fun x => partD fl σ >>= fun l => partD fh σ >>= fun h => sliceC x l h
abbrev SP0 (X : Cx) (G : Gx) (W : XK) (e : Option Expr) (f : Option (En → M D)) : Prop := PO X e (fun σ H Q => ∃ σd S μ, At G σd S μ σ H ∧ Post G μ S H W (fun o _ _ H' => Q o H') (partD f σd S))
theorem po_imp {e : Option Expr} {t t' : TO} (h : PO X e t) (m : ∀ σ H Q, t' σ H Q → t σ H Q) : PO X e t' := ⟨fun pins s σ H Q I q => h.run pins s σ H Q I (m σ H Q q)⟩
theorem sp_none : SP0 X G W none none := po_imp po_none fun σ H Q ⟨σd, S, μ, a0, h⟩ => Post.here (W := W) a0.lnk h
theorem sp_some (h : SE X G W e fe) : SP0 X G W (some e) (some fe) := po_imp (po_some h) fun σ H Q ⟨σd, S, μ, a0, p⟩ => by
  refine rdE_bind (k := fun _ d => match d with | .int i => M.pure (some i) | _ => M.stk) a0 p fun d S1 μ1 H1 v s1 a1 rv p => ?_
  cases d with
  | int i => exact ⟨i, rv, Post.here (W := W) a1.lnk p⟩
  | _ => exact p.elim
theorem rvs_take {μ : Nat → Addr} {n : Nat} {H : Hp} : ∀ {ds : List D} {vs : List V} (k : Nat), RVs G μ n H ds vs → RVs G μ n H (ds.take k) (vs.take k)
  | [], vs, k, h => by
    have h : vs = [] := h
    subst h; rw [List.take_nil, List.take_nil]; rfl
  | d :: ds, vs, 0, h => rfl
  | d :: ds, _, k + 1, ⟨v, r, e, h1, h2⟩ => by subst e; exact ⟨v, r.take k, rfl, h1, rvs_take k h2⟩
theorem rvs_drop {μ : Nat → Addr} {n : Nat} {H : Hp} : ∀ {ds : List D} {vs : List V} (k : Nat), RVs G μ n H ds vs → RVs G μ n H (ds.drop k) (vs.drop k)
  | [], vs, k, h => by
    have h : vs = [] := h
    subst h; rw [List.drop_nil, List.drop_nil]; rfl
  | d :: ds, vs, 0, h => h
  | d :: ds, _, k + 1, ⟨v, r, e, h1, h2⟩ => by subst e; exact rvs_drop k h2
theorem rvs_cut {μ : Nat → Addr} {n : Nat} {H : Hp} {ds : List D} {vs : List V} {lo hi : Option Int} (r : RVs G μ n H ds vs) : RVs G μ n H (cutD ds lo hi) (cutV vs lo hi) := by
  unfold cutD cutV
  rw [r.length]
  exact rvs_take _ (rvs_drop _ r)
theorem se_slice (hK : G.K = X.K) {lo hi : Option Expr} {fl fh : Option (En → M D)} {p2 : Pos} (he : SE X G W e fe) (hl : SP0 X G W lo fl) (hh : SP0 X G W hi fh) : SE X G W (.Subscript e (.Slice lo hi none p2) pos) (sliceE fe fl fh) :=
  pe_imp (pe_slice (SlR.or sl_tupA sl_list) he hl hh) fun σ H Q ⟨σd, S, μ, a0, p⟩ => by
    refine rdE_bind (k := fun σ x => partD fl σ >>= fun l => partD fh σ >>= fun h => sliceC x l h) a0 p fun d S1 μ1 H1 v s1 a1 rv p => ?_
    refine ⟨σd, S1, μ1, a1, (Post.bind (k := fun l => partD fh σd >>= fun h => sliceC d l h) p).mono fun l S2 μ2 H2 s2 p => ?_⟩
    have a2 := a1.step s2
    refine ⟨σd, S2, μ2, a2, (Post.bind (k := fun h => sliceC d l h) p).mono fun h S3 μ3 H3 s3 p => ?_⟩
    have a3 := a2.step s3
    have rv3 := (s2.trans s3).rv a1.lnk rv
    unfold sliceC at p
    cases e1 : tupD d with
    | some ds =>
      rw [e1] at p
      simp only at p
      obtain ⟨ad, vs, rfl, h1, h2⟩ := tupD_ok rv3 e1
      rw [hK] at h1
      refine .inl ⟨ad, vs, rfl, h1, fun hw => ?_, fun hw q hq => ?_⟩
      · rw [← h2.length] at hw
        rw [if_pos hw] at p
        exact (Post.here (W := W) a3.lnk p) _ rv3
      · rw [← h2.length] at hw
        rw [if_neg hw] at p
        exact Post.step (Stp.new a3.lnk hq) p _ (new_tup a3.lnk hq (rvs_cut h2))
    | none =>
      rw [e1] at p
      simp only at p
      cases e2 : seqK S3 d with
      | none => rw [e2] at p; exact p.elim
      | some ds =>
        rw [e2] at p
        obtain ⟨ad, vs, rfl, h1, h2⟩ := seqK_ok a3.lnk rv3 e2
        rw [hK] at h1
        exact .inr ⟨ad, vs, rfl, h1, fun q hq => Post.step (Stp.new a3.lnk hq) p _ (new_lst a3.lnk hq (rvs_cut h2))⟩
/-! ### range -/
def rangeI (lo : Int) (n : Nat) : List D := (List.range n).map fun (i : Nat) => D.int (lo + (i : Int))
def rng1 (fa : En → M D) : En → M (List D) := fun σ => fa σ >>= fun d => match d with
  | .int j => if -(2 ^ 62) ≤ j ∧ j < 2 ^ 62 then M.pure (rangeI 0 j.toNat) else M.stk
  | _ => M.stk
def rng2 (fa fb : En → M D) : En → M (List D) := fun σ => fa σ >>= fun x => fb σ >>= fun y => match x, y with
  | .int i, .int j => if -(2 ^ 62) ≤ i ∧ i < 2 ^ 62 ∧ -(2 ^ 62) ≤ j ∧ j < 2 ^ 62 then M.pure (rangeI i (j - i).toNat) else M.stk
  | _, _ => M.stk
theorem itok_range {μ : Nat → Addr} {S : Sto} {H : Hp} (lo : Int) (n : Nat) : ItOk G (Itr lo n) μ S H (rangeI lo n) := fun μ' S' H' s => by
  unfold rangeI
  refine ⟨fun i hi => by rw [List.length_map, List.length_range] at hi; exact hi, by rw [List.length_map, List.length_range]; exact Nat.le_refl _, fun i d e x H'' ⟨e1, e2⟩ => ?_⟩
  subst e1 e2
  rw [List.getElem?_map] at e
  cases e4 : (List.range n)[i]? with
  | none => rw [e4] at e; cases e
  | some j =>
    rw [e4] at e
    cases e
    obtain ⟨hj, ej⟩ := List.getElem?_eq_some_iff.mp e4
    rw [List.getElem_range] at ej
    subst ej
    exact ⟨.refl s.lnk, rfl⟩
theorem si_range1 {tg : Expr} {p : Pos} (hm : X.mg "range" = none) (ha : SE X G W a fa) (hg : Gl X "range" := by rfl) (hs : starEach [a] X.env = [(false, eval a X.env)] := by rfl) (hs1 : starEach [a] X.env = (false, eval a X.env) :: starEach [] X.env := by rfl) : SI X G W tg (.Call (.Name "range" p) [a] [] pos) (rng1 fa) :=
  pi_imp (pi_range1 hg hm (sa_cons ha sa_nil hs1) hs) fun σ H R ⟨σd, S, μ, a0, h⟩ => by
    have h := Post.bind (k := fun d => match d with | D.int j => if -(2 ^ 62) ≤ j ∧ j < 2 ^ 62 then M.pure (rangeI 0 j.toNat) else M.stk | _ => M.stk) h
    refine ⟨σd, S, μ, a0, ?_⟩
    have e0 : consA fa nilA σd S = (match fa σd S with | .ok d S1 => .ok [d] S1 | .exc c S1 => .exc c S1 | .stk => .stk) := by
      show M.bind (fa σd) (fun x => M.bind (nilA σd) fun xs => M.pure (x :: xs)) S = _
      unfold M.bind
      cases fa σd S <;> rfl
    rw [e0]
    cases e1 : fa σd S with
    | stk => rw [e1] at h; exact h.elim
    | exc c S1 => rw [e1] at h; exact h
    | ok d S1 =>
      rw [e1] at h
      intro μ1 H1 s1 vs rs
      obtain ⟨v, rfl, rv⟩ := rvs1 rs
      have q := h μ1 H1 s1
      cases d with
      | int j =>
        simp only at q
        by_cases hj : -(2 ^ 62) ≤ j ∧ j < 2 ^ 62
        · rw [if_pos hj] at q
          exact ⟨j, by rw [show v = .int j from rv], hj.1, hj.2, (Post.here (W := W) s1.lnk q) _ (itok_range 0 _)⟩
        · rw [if_neg hj] at q; exact q.elim
      | _ => exact q.elim
/-! ### {} -/
def newD (t : Bool) : M D := fun S => .ok (.ref S.n) (S.push (.dct t []))
def newDE (t : Bool) : En → M D := fun _ => newD t
theorem own_dct {μ : Nat → Addr} {S : Sto} {H : Hp} (L : Lnk G μ S H) {p : Addr} {t : Bool} {kvs : List (DK × D)} {vs : List (DK × V)} {o : HO} (hp : H p = none) (ho : HOd t vs o) (r : RVk G μ S.n H kvs vs) : Stp G μ S H (putMu μ S.n p) (S.push (.dct t kvs)) (upd H p o) :=
  Stp.own L hp ⟨vs, o, upd_same, ho, RVk.mono (grow_own L hp) L.tf _ _ r⟩
theorem se_dnew (t : Bool) : SE X G W (.Dict [] [] pos) (newDE t) := by
  cases t with
  | false => exact pe_imp pe_dnewK fun σ H Q ⟨σd, S, μ, a0, h⟩ p hp => Post.step (own_dct (t := false) (kvs := []) a0.lnk hp (.k []) rfl) h _ rv_own
  | true => exact pe_imp pe_dnewT fun σ H Q ⟨σd, S, μ, a0, h⟩ p hp => Post.step (own_dct (t := true) (kvs := []) a0.lnk hp (.t []) rfl) h _ rv_own
/-- a new dict that stays as it is -/
theorem new_dct {μ : Nat → Addr} {S : Sto} {H : Hp} (L : Lnk G μ S H) {p : Addr} {t : Bool} {kvs : List (DK × D)} {vs : List (DK × V)} {o : HO} {od : Obj} (hp : H p = none) (ho : HOd t vs o) (r : RVk G μ S.n H kvs vs) : Stp G μ S H μ S (upd (upd H p o) p (.frz od o)) ∧ RV G μ S.n (upd (upd H p o) p (.frz od o)) (.dct t kvs) (.ref p) := by
  rw [upd_upd]
  exact ⟨Stp.new L hp, p, vs, od, o, rfl, notOwn_new L hp, upd_same, ho, RVk.mono (Stp.new L hp).grow L.tf _ _ r⟩
def newDV (t : Bool) : En → M D := fun _ => M.pure (.dct t [])
theorem se_dnewV (t : Bool) : SE X G W (.Dict [] [] pos) (newDV t) := by
  cases t with
  | false => exact pe_imp (pe_frz pe_dnewK) fun σ H Q ⟨σd, S, μ, a0, h⟩ p hp => ⟨p, _, rfl, upd_same, True.intro, fun od => by
      obtain ⟨st, rv⟩ := new_dct (t := false) (kvs := []) (od := od) a0.lnk hp (.k []) rfl
      exact Post.step st h _ rv⟩
  | true => exact pe_imp (pe_frz pe_dnewT) fun σ H Q ⟨σd, S, μ, a0, h⟩ p hp => ⟨p, _, rfl, upd_same, True.intro, fun od => by
      obtain ⟨st, rv⟩ := new_dct (t := true) (kvs := []) (od := od) a0.lnk hp (.t []) rfl
      exact Post.step st h _ rv⟩
end
end Fd

set_option Elab.async false
set_option linter.all false
set_option maxRecDepth 100000
set_option maxHeartbeats 1000000
namespace Fd
open PySem PySem.Spec PyProof.Rows L2
section
variable {X : Cx} {G : Gx} {W : XK} {o e : Expr} {es : List Expr} {fo fe : En → M D} {fr : En → M (List D)} {apos cpos pos p : Pos}
/-! ### methods of built-in types -/
abbrev rdMt (G : Gx) (W : XK) (g : D → List D → M D) : V → List V → Hp → VK → Prop := fun x xs H Q => ∃ d ds S μ, Lnk G μ S H ∧ RV G μ S.n H d x ∧ RVs G μ S.n H ds xs ∧ Post G μ S H W (WQ G Q) (g d ds S)
abbrev MtD (X : Cx) (G : Gx) (W : XK) (id : String) (g : D → List D → M D) : Prop := MtR X id (rdMt G W g)
theorem mtR_imp {id : String} {r r' : V → List V → Hp → VK → Prop} (h : MtR X id r) (m : ∀ x xs H Q, r' x xs H Q → r x xs H Q) : MtR X id r' := fun pins s σ H x xs v us Q I rx rs q => h pins s σ H x xs v us Q I rx rs (m x xs H Q q)
/-- the receiver's type -/
def tyC (T : String) (S : Sto) (d : D) : Bool := match d with
  | .str _ => T == "str"
  | .ref l => if S.locked l = true then T == "list" && (seqL S d).isSome else (T == "list" && (seqL S d).isSome) || (T == "dict" && (dctD S d).isSome)
  | .lst _ => T == "list"
  | _ => false
theorem tyC_ok {μ : Nat → Addr} {S : Sto} {H : Hp} (L : Lnk G μ S H) {T : String} {d : D} {v : V} (r : RV G μ S.n H d v) (h : tyC T S d = true) : tyV X.K T v H := by
  have isL : ∀ ds, seqL S d = some ds → T = "list" → tyV X.K T v H := fun ds e1 hT => by
    obtain ⟨a, vs, rfl, h1, _⟩ := seqL_ok L r e1
    exact .inl ⟨hT, vs, .inl h1⟩
  cases d with
  | str z =>
    have r : v = .str z := r
    subst r
    exact (beq_iff_eq).mp h
  | lst ds => exact isL ds rfl ((beq_iff_eq).mp h)
  | ref l =>
    unfold tyC at h
    have ls : ∀ q : Bool, (T == "list" && (seqL S (.ref l)).isSome) = true → tyV X.K T v H := fun _ h => by
      rw [Bool.and_eq_true, Option.isSome_iff_exists] at h
      obtain ⟨h1, ds, h2⟩ := h
      exact isL ds h2 ((beq_iff_eq).mp h1)
    by_cases hl : S.locked l = true
    · simp only [hl, if_true] at h
      exact ls true h
    · simp only [hl, if_false] at h
      have hl' : S.locked l = false := by simpa using hl
      rcases (Bool.or_eq_true _ _).mp h with h | h
      · exact ls true h
      · rw [Bool.and_eq_true, Option.isSome_iff_exists] at h
        obtain ⟨h1, ⟨t, kvs⟩, h2⟩ := h
        obtain ⟨hn, rfl⟩ := r
        obtain ⟨ob, eo⟩ := getE_of_lt hn
        have h2 : (match S.objs[l]? with | some (.dct t kvs) => some (t, kvs) | _ => none) = some (t, kvs) := h2
        rw [eo] at h2
        cases ob with
        | dct t' kvs' =>
          obtain ⟨vs, u, q1, q2, q3⟩ := L.ob l _ eo
          rw [hl'] at q1
          have q1 : H (μ l) = some u := q1
          refine .inr (.inr (.inl ⟨(beq_iff_eq).mp h1, ?_⟩))
          cases q2 with
          | k ls => exact .inl ⟨ls, q1⟩
          | t ls => exact .inr ⟨ls, q1⟩
        | lst _ => cases h2
        | ins _ _ => cases h2
  | _ => exact absurd h Bool.false_ne_true
def chkTy (T : String) (x : D) : M Unit := fun S => if tyC T S x = true then .ok () S else .stk
def bmE (T : String) (fo : En → M D) (fr : En → M (List D)) (g : D → List D → M D) : En → M D := fun σ => fo σ >>= fun x => chkTy T x >>= fun _ => fr σ >>= fun xs => g x xs
theorem chkTy_ok {μ : Nat → Addr} {S : Sto} {H : Hp} (L : Lnk G μ S H) {T : String} {d : D} {v : V} (r : RV G μ S.n H d v) {α : Type} {Q : α → Sto → (Nat → Addr) → Hp → Prop} {kk : M α} (p : Post G μ S H W Q ((chkTy T d >>= fun _ => kk) S)) : tyV X.K T v H ∧ Post G μ S H W Q (kk S) := by
  have p := Post.bind (k := fun _ => kk) p
  unfold chkTy at p
  by_cases h : tyC T S d = true
  · rw [if_pos h] at p
    exact ⟨tyC_ok L r h, Post.here L p⟩
  · rw [if_neg h] at p; exact p.elim
variable {T id : String} {name : Str} {g : D → List D → M D}
theorem se_bm (pa : PlainAttrs T) (slot : Slot T name id) (hty : typeOf (.builtin id) = pure (.type "method_descriptor")) (hm : MtD X G W id g) (ho : SE X G W o fo) (ha : SA X G W (e :: es) fr)
    (hbase : attributeBase o name X.env (eval o X.env) = eval o X.env := by rfl)
    (hfew : ((backTo cpos (starEach (e :: es) X.env)).all (fun x => !x.1) && (backToKw cpos (keywordEach [] X.env)).all (fun x => x.1.isSome)
      && decide ((e :: es).length + ([] : List Keyword).length + (if ([] : List Keyword).isEmpty then 0 else 1) < 30)) = true := by rfl)
    (hline : (apos.endLine == cpos.line) = true := by rfl) (hs : starEach (e :: es) X.env = (false, eval e X.env) :: starEach es X.env := by rfl) (hplain : (backTo cpos (starEach es X.env)).any (·.1) = false := by rfl) :
    SE X G W (.Call (.Attribute o name apos) (e :: es) [] cpos) (bmE T fo fr g) :=
  pe_imp (pe_bm pa slot hty hm ho ha hbase hfew hline hs hplain) fun σ H Q ⟨σd, S, μ, a0, h⟩ => by
    refine rdE_bind (k := fun σ x => chkTy T x >>= fun _ => fr σ >>= fun xs => g x xs) a0 h fun d S1 μ1 H1 v s a1 r p => ?_
    obtain ⟨ty, p⟩ := chkTy_ok a1.lnk r p
    refine ⟨ty, rdA_bind (k := fun _ xs => g d xs) a1 p fun ds S2 μ2 H2 vs s2 a2 rs p => ?_⟩
    exact ⟨d, ds, S2, μ2, a2.lnk, s2.rv a1.lnk r, rs, p⟩
theorem se_bm0 (pa : PlainAttrs T) (slot : Slot T name id) (hty : typeOf (.builtin id) = pure (.type "method_descriptor")) (hm : MtD X G W id g) (ho : SE X G W o fo)
    (hbase : attributeBase o name X.env (eval o X.env) = eval o X.env := by rfl) (hline : (apos.endLine == cpos.line) = true := by rfl) : SE X G W (.Call (.Attribute o name apos) [] [] cpos) (bmE T fo nilA g) :=
  pe_imp (pe_bm0 pa slot hty hm ho hbase hline) fun σ H Q ⟨σd, S, μ, a0, h⟩ => by
    refine rdE_bind (k := fun σ x => chkTy T x >>= fun _ => nilA σ >>= fun xs => g x xs) a0 h fun d S1 μ1 H1 v s a1 r p => ?_
    obtain ⟨ty, p⟩ := chkTy_ok a1.lnk r p
    exact ⟨ty, d, [], S1, μ1, a1.lnk, r, rfl, p⟩
/-! ### list.append, list.pop, dict.pop -/
def ownL (S : Sto) : D → Option (Nat × List D)
  | .ref l => if S.locked l = true then none else match S.objs[l]? with
    | some (.lst ds) => some (l, ds)
    | _ => none
  | _ => none
theorem ownL_ok {μ : Nat → Addr} {S : Sto} {H : Hp} (L : Lnk G μ S H) {d : D} {v : V} {l : Nat} {ds : List D} (r : RV G μ S.n H d v) (e : ownL S d = some (l, ds)) : d = .ref l ∧ l < S.n ∧ v = .ref (μ l) ∧ ∃ vs, H (μ l) = some (.lst vs) ∧ RVs G μ S.n H ds vs ∧
    ∀ ds' vs', RVs G μ S.n H ds' vs' → Stp G μ S H μ (S.put l (.lst ds')) (upd H (μ l) (.lst vs')) := by
  cases d with
  | ref l' =>
    obtain ⟨hl, rfl⟩ := r
    unfold ownL at e
    by_cases hk : S.locked l' = true
    · simp only [hk, if_true] at e; cases e
    · have hk' : S.locked l' = false := by simpa using hk
      simp only [hk, if_false] at e
      cases eo : S.objs[l']? with
      | none => simp only [eo] at e; cases e
      | some ob =>
        cases ob with
        | lst xs =>
          simp only [eo] at e
          cases e
          obtain ⟨vs, h1, h2⟩ := L.ob _ _ eo
          rw [hk'] at h1
          have h1 : H (μ l) = some (.lst vs) := h1
          refine ⟨rfl, hl, rfl, vs, h1, h2, fun ds' vs' r' => ?_⟩
          have g := grow_put (u := .lst vs') L hl h1 (fun _ _ e => by cases e) (fun _ e => by cases e)
          exact Stp.put L hl hk' h1 (fun _ _ e => by cases e) (fun _ e => by cases e) (fun _ e => by cases e) (fun _ e => by cases e) ⟨_, upd_same, r'.mono g L.tf⟩
        | dct _ _ => simp only [eo] at e; cases e
        | ins _ _ => simp only [eo] at e; cases e
  | _ => cases e
def appM : D → List D → M D := fun x ds S => match ds with
  | [y] => (match ownL S x with
    | some (l, xs) => if xs.length < sizeLine then .ok .non (S.put l (.lst (xs ++ [y]))) else .stk
    | none => .stk)
  | _ => .stk
theorem mt_app : MtD X G W "list.append" appM := mtR_imp mt_append fun x xs H Q ⟨d, ds, S, μ, L, r, rs, p⟩ => by
  unfold appM at p
  match ds, rs, p with
  | [y], rs, p =>
    obtain ⟨w, rfl, rw'⟩ := rvs1 rs
    simp only at p
    cases e1 : ownL S d with
    | none => rw [e1] at p; exact p.elim
    | some q =>
      obtain ⟨l, xs⟩ := q
      rw [e1] at p
      simp only at p
      obtain ⟨_, hl, rfl, vs, h1, h2, h3⟩ := ownL_ok L r e1
      by_cases hz : xs.length < sizeLine
      · rw [if_pos hz] at p
        exact ⟨_, vs, w, rfl, rfl, h1, by rw [← h2.length]; exact hz, Post.step (h3 _ _ (h2.append (show RVs G μ S.n H [y] [w] from ⟨w, [], rfl, rw', rfl⟩))) p _ rfl⟩
      · rw [if_neg hz] at p; exact p.elim
  | [], _, p => exact p.elim
  | _ :: _ :: _, _, p => exact p.elim
theorem rvs_dropLast {μ : Nat → Addr} {n : Nat} {H : Hp} {ds : List D} {vs : List V} (r : RVs G μ n H ds vs) : RVs G μ n H ds.dropLast vs.dropLast := by
  rw [List.dropLast_eq_take, List.dropLast_eq_take, r.length]
  exact rvs_take _ r
def popM : D → List D → M D := fun x ds S => match ds with
  | [] => (match ownL S x with
    | some (l, xs) => (match xs[xs.length - 1]? with
      | some y => .ok y (S.put l (.lst xs.dropLast))
      | none => .stk)
    | none => .stk)
  | _ => .stk
theorem mt_popD : MtD X G W "list.pop" popM := mtR_imp mt_pop fun x xs H Q ⟨d, ds, S, μ, L, r, rs, p⟩ => by
  unfold popM at p
  match ds, rs, p with
  | [], rs, p =>
    have rs : xs = [] := rs
    subst rs
    simp only at p
    cases e1 : ownL S d with
    | none => rw [e1] at p; exact p.elim
    | some q =>
      obtain ⟨l, xs⟩ := q
      rw [e1] at p
      simp only at p
      obtain ⟨_, hl, rfl, vs, h1, h2, h3⟩ := ownL_ok L r e1
      cases e2 : xs[xs.length - 1]? with
      | none => rw [e2] at p; exact p.elim
      | some y =>
        rw [e2] at p
        obtain ⟨w, ew, rw'⟩ := rvs_get h2 e2
        rw [h2.length] at ew
        have st := h3 _ _ (rvs_dropLast h2)
        exact ⟨_, vs, w, rfl, rfl, h1, ew, Post.step st p _ (st.rv L rw')⟩
  | _ :: _, _, p => exact p.elim
def ownK (S : Sto) : D → Option (Nat × List (DK × D))
  | .ref l => if S.locked l = true then none else match S.objs[l]? with
    | some (.dct false kvs) => some (l, kvs)
    | _ => none
  | _ => none
def dpopM : D → List D → M D := fun x ds S => match ds with
  | [k] => (match ownK S x, atomK k with
    | some (l, kvs), some kk => (match val kvs (.k kk) with
      | some y => .ok y (S.put l (.dct false (drop kvs (.k kk))))
      | none => .stk)
    | _, _ => .stk)
  | _ => .stk
theorem rvk_drop {μ : Nat → Addr} {n : Nat} {H : Hp} {κ : Type} [DecidableEq κ] {f : κ → DK} (inj : ∀ a b, f a = f b → a = b) {k : κ} : ∀ {kvs : List (DK × D)} {l : List (κ × V)}, RVk G μ n H kvs (l.map fun p => (f p.1, p.2)) → RVk G μ n H (drop kvs (f k)) ((dropK l k).map fun p => (f p.1, p.2))
  | [], [], _ => rfl
  | [], _ :: _, h => by cases (show _ = _ from h)
  | (k0, d) :: kvs, [], ⟨v, r, e, _⟩ => by cases e
  | (k0, d) :: kvs, (k', v') :: l, ⟨v, r, e, h1, h2⟩ => by
    rw [List.map_cons] at e
    injection e with e1 e2
    injection e1 with e3 e4
    subst e2 e3 e4
    have ih := rvk_drop inj (k := k) h2
    unfold drop dropK at ih ⊢
    by_cases hk : k' = k
    · rw [List.filter_cons_of_neg (by simp [hk]), List.filter_cons_of_neg (by simp [hk])]
      exact ih
    · rw [List.filter_cons_of_pos (by simp; exact fun z => hk (inj _ _ z)), List.filter_cons_of_pos (by simp [hk])]
      exact ⟨_, _, rfl, h1, ih⟩
theorem call_dpop : MtR X "dict.pop" (fun x xs H Q => ∃ a kvs k v, x = V.ref a ∧ xs = [kV k] ∧ H a = some (.dK kvs) ∧ valV kvs k = some v ∧ Q v (upd H a (.dK (dropK kvs k)))) := by
  intro pins s σ H x xs v us Q I rx rs h
  obtain ⟨a, kvs, k, w, rfl, rfl, hd, l, q⟩ := h
  cases rx
  obtain ⟨u, rfl, ru⟩ := rs.one
  exact d_pop I hd ru l (.inl rfl) fun w' s' I' rw' => ⟨w, _, I', rw', q⟩
theorem mt_dpop : MtD X G W "dict.pop" dpopM := mtR_imp call_dpop fun x xs H Q ⟨d, ds, S, μ, L, r, rs, p⟩ => by
  unfold dpopM at p
  match ds, rs, p with
  | [k], rs, p =>
    obtain ⟨w, rfl, rw'⟩ := rvs1 rs
    simp only at p
    cases d with
    | ref l =>
      obtain ⟨hl, rfl⟩ := r
      cases eK : ownK S (.ref l) with
      | none => rw [eK] at p; exact p.elim
      | some q =>
      rw [eK] at p
      obtain ⟨l0, kvs⟩ := q
      have eK : (if S.locked l = true then none else match S.objs[l]? with | some (.dct false kvs) => some (l, kvs) | _ => none) = some (l0, kvs) := eK
      by_cases hk : S.locked l = true
      · rw [if_pos hk] at eK; cases eK
      · have hk' : S.locked l = false := by simpa using hk
        rw [if_neg hk] at eK
        cases eo : S.objs[l]? with
        | none => rw [eo] at eK; cases eK
        | some ob =>
          rw [eo] at eK
          cases ob with
          | lst _ => cases eK
          | ins _ _ => cases eK
          | dct t kvs =>
            cases t with
            | true => cases eK
            | false =>
              cases eK
              cases e1 : atomK k with
              | none => rw [e1] at p; exact p.elim
              | some kk =>
                rw [e1] at p
                simp only at p
                cases e2 : val kvs (.k kk) with
                | none => rw [e2] at p; exact p.elim
                | some y =>
                  rw [e2] at p
                  obtain ⟨us, o, h1, h2, h3⟩ := L.ob _ _ eo
                  rw [hk'] at h1
                  have h1 : H (μ l) = some o := h1
                  cases h2 with
                  | k ls =>
                    have hv := val_valV (fun _ _ => dk_inj) h3 kk
                    rw [e2] at hv
                    cases e3 : valV ls kk with
                    | none => rw [e3] at hv; exact hv.elim
                    | some vv =>
                      rw [e3] at hv
                      have g := grow_put (u := .dK (dropK ls kk)) L hl h1 (fun _ _ e => by cases e) (fun _ e => by cases e)
                      have st : Stp G μ S H μ (S.put l (.dct false (drop kvs (.k kk)))) (upd H (μ l) (.dK (dropK ls kk))) := Stp.put L hl hk' h1 (fun _ _ e => by cases e) (fun _ e => by cases e) (fun _ e => by cases e) (fun _ e => by cases e)
                        ⟨_, _, upd_same, .k _, RVk.mono g L.tf _ _ (rvk_drop (fun _ _ => dk_inj) h3)⟩
                      refine ⟨μ l, ls, kk, vv, rfl, by rw [atomK_ok rw' e1], h1, e3, Post.step st p _ (st.rv L hv)⟩
    | _ => exact p.elim
  | [], _, p => exact p.elim
  | _ :: _ :: _, _, p => exact p.elim
end
end Fd

set_option Elab.async false
set_option linter.all false
set_option maxRecDepth 100000
set_option maxHeartbeats 1000000
namespace Fd
open PySem PySem.Spec PyProof.Rows L2
section
variable {X : Cx} {G : Gx} {W : XK} {o e : Expr} {es : List Expr} {fo fe : En → M D} {fr : En → M (List D)} {apos cpos pos p : Pos}
/-! ### dict(..) -/
def pairD : D → Option (DK × D)
  | .tup [k, v] => (atomK k).map fun kk => (.k kk, v)
  | _ => none
def mergeD (kvs more : List (DK × D)) : List (DK × D) := more.foldl (fun acc p => put acc p.1 p.2) kvs
def dictL (S : Sto) (d : D) : Option (List (DK × D)) := match dctD S d with
  | some (false, kvs) => some kvs
  | some (true, _) => none
  | none => (match seqL S d with
    | some xs => (xs.mapM pairD).map (mergeD [])
    | none => none)
def rDict (K : PySem.W.Frag) : List V → Hp → VK → Prop := fun xs H Q => (∃ (a : Addr) (kvs : List (Key × V)), xs = [.ref a] ∧ Rd H a (.dK kvs) ∧ ∀ p, H p = none → Q (.ref p) (upd H p (.dK kvs))) ∨
  ∃ (a : Addr) (ps : List Addr) (kvs : List (Key × V)), xs = [.ref a] ∧ SqL K H a (ps.map V.ref) ∧ Paired (fun p kv => SqT K H p [kV kv.1, kv.2]) ps kvs ∧ ∀ p, H p = none → Q (.ref p) (upd H p (.dK (mergeK [] kvs)))
theorem call_dict (hc : X.calm = true) : CallR X (.type "dict") (rDict X.K) := CallR.or call_dictD (call_dictP hc)
theorem rvk_merge {μ : Nat → Addr} {n : Nat} {H : Hp} : ∀ {more : List (DK × D)} {ms : List (Key × V)} {kvs : List (DK × D)} {l : List (Key × V)}, RVk G μ n H more (ms.map fun p => (DK.k p.1, p.2)) → RVk G μ n H kvs (l.map fun p => (DK.k p.1, p.2)) → RVk G μ n H (mergeD kvs more) ((mergeK l ms).map fun p => (DK.k p.1, p.2))
  | [], [], _, _, _, h => h
  | [], _ :: _, _, _, h, _ => by cases (show _ = _ from h)
  | (k0, d) :: more, [], _, _, ⟨v, r, e, _⟩, _ => by cases e
  | (k0, d) :: more, (k', v') :: ms, kvs, l, ⟨v, r, e, h1, h2⟩, h => by
    rw [List.map_cons] at e
    injection e with e1 e2
    injection e1 with e3 e4
    subst e2 e3 e4
    exact rvk_merge (more := more) (ms := ms) (kvs := put kvs (.k k') d) (l := putK l k' v') h2 (rvk_put (fun _ _ => dk_inj) h h1)
theorem pairs_ok {μ : Nat → Addr} {n : Nat} {H : Hp} : ∀ {xs : List D} {vs : List V} {prs : List (DK × D)}, RVs G μ n H xs vs → xs.mapM pairD = some prs → ∃ (ps : List Addr) (kvs : List (Key × V)), vs = ps.map V.ref ∧ Paired (fun p kv => SqT G.K H p [kV kv.1, kv.2]) ps kvs ∧ RVk G μ n H prs (kvs.map fun p => (DK.k p.1, p.2))
  | [], vs, prs, r, e => by
    have r : vs = [] := r
    subst r
    rw [List.mapM_nil] at e
    cases e
    exact ⟨[], [], rfl, .nil, rfl⟩
  | x :: xs, _, prs, ⟨v, r, ev, h1, h2⟩, e => by
    subst ev
    rw [List.mapM_cons] at e
    cases e1 : pairD x with
    | none => rw [e1] at e; cases e
    | some q =>
      cases e2 : xs.mapM pairD with
      | none => rw [e1, e2] at e; cases e
      | some qs =>
        rw [e1, e2] at e
        have e : some (q :: qs) = some prs := e
        cases e
        obtain ⟨ps, kvs, rfl, p2, p3⟩ := pairs_ok h2 e2
        unfold pairD at e1
        split at e1
        · rename_i k w
          cases e3 : atomK k with
          | none => rw [e3] at e1; cases e1
          | some kk =>
            rw [e3] at e1
            cases e1
            obtain ⟨a, us, rfl, t1, t2⟩ := h1
            obtain ⟨u1, u2, rfl, t3, t4⟩ := rvs2 t2
            refine ⟨a :: ps, (kk, u2) :: kvs, rfl, .cons ?_ p2, u2, _, rfl, t4, p3⟩
            show SqT G.K H a [kV kk, u2]
            rw [← atomK_ok t3 e3]
            exact .of t1
        · cases e1
/-- what dict(d) makes -/
theorem dict_made (hK : G.K = X.K) {μ : Nat → Addr} {S : Sto} {H : Hp} (L : Lnk G μ S H) {d : D} {v : V} {kvs : List (DK × D)} (r : RV G μ S.n H d v) (e : dictL S d = some kvs) {Q : VK}
    (h : ∀ (l : List (Key × V)), RVk G μ S.n H kvs (l.map fun p => (DK.k p.1, p.2)) → ∀ p, H p = none → Q (.ref p) (upd H p (.dK l))) : rDict X.K [v] H Q := by
  unfold dictL at e
  cases e1 : dctD S d with
  | some q =>
    obtain ⟨t, ks⟩ := q
    rw [e1] at e
    cases t with
    | true => cases e
    | false =>
      cases e
      obtain ⟨a, us, o, rfl, h1, h2, h3⟩ := dctD_ok L r e1
      cases h2 with
      | k l => exact .inl ⟨a, l, rfl, h1, h l h3⟩
  | none =>
    rw [e1] at e
    simp only at e
    cases e2 : seqL S d with
    | none => rw [e2] at e; cases e
    | some xs =>
      rw [e2] at e
      simp only at e
      cases e3 : xs.mapM pairD with
      | none => rw [e3] at e; cases e
      | some prs =>
        rw [e3] at e
        cases e
        obtain ⟨a, vs, rfl, h1, h2⟩ := seqL_ok L r e2
        obtain ⟨ps, ks, rfl, p2, p3⟩ := pairs_ok h2 e3
        rw [hK] at p2
        exact .inr ⟨a, ps, ks, rfl, .inl h1, p2, h _ (rvk_merge (kvs := []) (l := []) p3 rfl)⟩
def dictC : List D → M D := fun ds S => match ds with
  | [d] => (match dictL S d with
    | some kvs => .ok (.ref S.n) (S.push (.dct false kvs))
    | none => .stk)
  | _ => .stk
theorem cd_dict (hK : G.K = X.K) (hc : X.calm = true) : CallD X G W (.type "dict") dictC := callR_imp (call_dict hc) fun vs H Q ⟨ds, S, μ, L, r, p⟩ => by
  unfold dictC at p
  match ds, r, p with
  | [d], r, p =>
    obtain ⟨v, rfl, rd⟩ := rvs1 r
    simp only at p
    cases e1 : dictL S d with
    | none => rw [e1] at p; exact p.elim
    | some kvs =>
      rw [e1] at p
      exact dict_made hK L rd e1 fun l r q hq => Post.step (own_dct (t := false) L hq (.k l) r) p _ rv_own
  | [], _, p => exact p.elim
  | _ :: _ :: _, _, p => exact p.elim
/-- .. that stays as it is -/
def dictV (fr : En → M (List D)) : En → M D := fun σ => fr σ >>= fun ds S => match ds with
  | [d] => (match dictL S d with
    | some kvs => .ok (.dct false kvs) S
    | none => .stk)
  | _ => .stk
theorem se_dictV (hK : G.K = X.K) (hc : X.calm = true) (hm : X.mg "dict" = none) (ha : SA X G W (e :: es) fr) (hg : Gl X "dict" := by rfl) (hv : bootBuiltins "dict" = some (.type "dict") := by decide +kernel)
    (he : starEach (e :: es) X.env = (false, eval e X.env) :: starEach es X.env := by rfl) (hpl : (backTo pos (starEach es X.env)).any (·.1) = false := by rfl) : SE X G W (.Call (.Name "dict" p) (e :: es) [] pos) (dictV fr) :=
  pe_imp (pe_frz (pe_callTy (call_dict hc) hg hm hv ha (by decide) (by decide) he hpl)) fun σ H Q ⟨σd, S, μ, a0, h⟩ => by
    refine rdA_bind (k := fun _ ds S => match ds with | [d] => (match dictL S d with | some kvs => R.ok (D.dct false kvs) S | none => R.stk) | _ => R.stk) a0 h fun ds S1 μ1 H1 vs s a1 r p => ?_
    match ds, r, p with
    | [d], r, p =>
      obtain ⟨v, rfl, rd⟩ := rvs1 r
      simp only at p
      cases e1 : dictL S1 d with
      | none => rw [e1] at p; exact p.elim
      | some kvs =>
        rw [e1] at p
        refine dict_made hK a1.lnk rd e1 fun l r q hq => ⟨q, _, rfl, upd_same, True.intro, fun od => ?_⟩
        obtain ⟨st, rv⟩ := new_dct (t := false) (od := od) a1.lnk hq (.k l) r
        exact Post.step st p _ rv
    | [], _, p => exact p.elim
    | _ :: _ :: _, _, p => exact p.elim
/-! ### list(d.items()) -/
def rItemsR : V → Hp → VK → Prop := fun x H Q => ∃ (d : Addr) (kvs : List (Key × V)), x = .ref d ∧ Rd H d (.dK kvs) ∧
  ∀ (H' : Hp) (p : Addr) (ts : List Addr), (∀ b o, H b = some o → H' b = some o) → H p = none → (∀ t ∈ ts, H t = none) → p ∉ ts → H' p = some (.lst (ts.map V.ref)) → Paired (fun (t : Addr) (q : Key × V) => H' t = some (.tup [kV q.1, q.2])) ts kvs → Q (.ref p) H'
theorem pe_listItemsR {te : TE} (hc : X.calm = true) (he : PE X e te) (hg : Gl X "list") (hm : X.mg "list" = none) (hv : bootBuiltins "list" = some (.type "list")) (hbase : attributeBase e "items" X.env (eval e X.env) = eval e X.env := by rfl) (hline : (apos.endLine == cpos.line) = true := by rfl)
    (hs : starEach [.Call (.Attribute e "items" apos) [] [] cpos] X.env = (false, eval (.Call (.Attribute e "items" apos) [] [] cpos) X.env) :: starEach [] X.env := by rfl) :
    PE X (.Call (.Name "list" p) [.Call (.Attribute e "items" apos) [] [] cpos] [] pos) (fun σ H Q => te σ H fun x H1 => rItemsR x H1 Q) := by
  refine ⟨fun pins s σ H Q I hq => ?_⟩
  refine wpAny_Call_Name_kw ((ld_blt I hg hm hv ?_))
  refine (PyProof.Rows.callWith_type1 ?_ hs rfl)
  rw [hs]
  show wpAny _ _ (spliced ((false, eval (.Call (.Attribute e "items" apos) [] [] cpos) X.env) :: backTo pos (starEach [] X.env))) _ _ s
  refine (Calls.spliced_cons ?_)
  refine wpAny_Call_method (T := "dict") (id := "dict.items") hbase rfl hline F.plainAttrs_dict F.slot_dict_items F.type_dict_items (wpAny_mono (he.run pins s σ H _ I hq) (fun u s1 ⟨x, H1, I1, rx, d, kvs, ex, hd, q⟩ => ?_) fun _ _ x => x)
  subst ex
  obtain rfl : u = Value.ref d := rx
  obtain ⟨hz, hs0, vs, kv, hdo⟩ := dk_rd I1.hok hd
  obtain ⟨ep, hat⟩ := hdo.dictAt
  have lk : kvs.length = vs.length := Paired.length kv
  have I2 : Inv X pins σ H1 { s1 with heap := s1.heap.push { cls := .type "dict_items", data := .fields #[.ref d] } } := I1.kept (t' := s1.toks) fun b ob z => Heap.get?_push_of_some _ z
  refine ⟨hdo.typeIs, hdo.mapOf.noDict, ?_⟩
  show wpAny _ _ (callWith cpos (.builtin "dict.items") [.ref d] [] []) _ X.xe s1
  refine method_meetsIn F.slot_dict_items F.entry_dict_items rfl (PySem.evalArgs_none ⟨rfl, hdo.typeIs, F.args_dict_items_1 _, _, meets_dict_items (mixKind X.prog X.w) d hs0, ⟨vs, hdo⟩, ?_⟩)
  refine (Calls.spliced_nil ?_)
  refine PySem.W.kdx_call (knd := mixKind X.prog X.w) (kvs := vs) (ep := ep) (I1.ok.hd hc) ⟨_, Heap.get?_push_size _ rfl, rfl, rfl⟩ (hat.push _) (by omega) fun h' tk acc c as hk hS hl hG hacc => ?_
  obtain ⟨H', k1, k2, k3, k4, k5, k6, J⟩ := LiI.items_laid (tk := tk) I2 hz kv hk hS hl hG hacc
  exact ⟨.ref _, H', J, rfl, q H' _ as k1 k2 k3 k4 k5 k6⟩
def itemsD (kvs : List (DK × D)) : List D := kvs.map fun p => .tup [dkD p.1, p.2]
/-- many new objects, none of the store -/
theorem Stp.news {μ : Nat → Addr} {S : Sto} {H H' : Hp} (L : Lnk G μ S H) (k : ∀ b o, H b = some o → H' b = some o) (hT : G.T H') : Stp G μ S H μ S H' := by
  have g : Grow μ S.n H μ S.n H' := ⟨.refl _ _, fun l h1 h2 => absurd h2 (by omega), fun a u e _ _ => k a u e, fun a od u e => k a _ e, fun a u e nt => ⟨u, k a u e, nt⟩⟩
  refine ⟨⟨L.inj, fun l u e => ?_, hT, L.lk⟩, g⟩
  have h := L.ob l u e
  obtain ⟨w, hw, _⟩ := h.hd
  exact h.mono g L.tf (by rw [k _ _ hw, hw])
theorem items_rvs {μ : Nat → Addr} {n : Nat} {H : Hp} : ∀ {kvs : List (DK × D)} {l : List (Key × V)} {ts : List Addr}, RVk G μ n H kvs (l.map fun p => (DK.k p.1, p.2)) → Paired (fun (t : Addr) (q : Key × V) => H t = some (.tup [kV q.1, q.2])) ts l → RVs G μ n H (itemsD kvs) (ts.map V.ref)
  | [], [], _, _, .nil => rfl
  | [], _ :: _, _, h, _ => by cases (show _ = _ from h)
  | (k0, d) :: kvs, [], _, ⟨v, r, e, _⟩, _ => by cases e
  | (k0, d) :: kvs, (k', v') :: l, t :: ts, ⟨v, r, e, h1, h2⟩, .cons ht tl => by
    rw [List.map_cons] at e
    injection e with e1 e2
    injection e1 with e3 e4
    subst e2 e3 e4
    refine ⟨.ref t, ts.map V.ref, rfl, ⟨t, [kV k', v'], rfl, ht, kV k', [v'], rfl, ?_, v', [], rfl, h1, rfl⟩, items_rvs h2 tl⟩
    cases k' <;> rfl
def itemsE (fe : En → M D) : En → M D := fun σ => fe σ >>= fun d S => match dctD S d with
  | some (false, kvs) => .ok (.lst (itemsD kvs)) S
  | _ => .stk
theorem se_items (hc : X.calm = true) (hm : X.mg "list" = none) (he : SE X G W e fe) (hg : Gl X "list" := by rfl) (hv : bootBuiltins "list" = some (.type "list") := by decide +kernel) (hbase : attributeBase e "items" X.env (eval e X.env) = eval e X.env := by rfl) (hline : (apos.endLine == cpos.line) = true := by rfl)
    (hs : starEach [.Call (.Attribute e "items" apos) [] [] cpos] X.env = (false, eval (.Call (.Attribute e "items" apos) [] [] cpos) X.env) :: starEach [] X.env := by rfl) :
    SE X G W (.Call (.Name "list" p) [.Call (.Attribute e "items" apos) [] [] cpos] [] pos) (itemsE fe) :=
  pe_imp (pe_listItemsR hc he hg hm hv hbase hline hs) fun σ H Q ⟨σd, S, μ, a0, h⟩ => by
    refine rdE_bind (k := fun _ d S => match dctD S d with | some (false, kvs) => R.ok (D.lst (itemsD kvs)) S | _ => R.stk) a0 h fun d S1 μ1 H1 v s a1 r p => ?_
    cases e1 : dctD S1 d with
    | none => rw [e1] at p; exact p.elim
    | some q =>
      obtain ⟨t, kvs⟩ := q
      rw [e1] at p
      cases t with
      | true => exact p.elim
      | false =>
        obtain ⟨a, us, o, rfl, h1, h2, h3⟩ := dctD_ok a1.lnk r e1
        cases h2 with
        | k l =>
          refine ⟨a, l, rfl, h1, fun H' q ts k1 k2 k3 k4 k5 k6 => ?_⟩
          have st := Stp.news a1.lnk k1 (G.tst _ _ (fun b o z _ => k1 b o z) a1.lnk.tab)
          refine Post.step st p _ ⟨q, ts.map V.ref, rfl, notOwn_new a1.lnk k2, k5, items_rvs (RVk.mono st.grow a1.lnk.tf _ _ h3) k6⟩
/-! ### == of dicts -/
def eqK (S : Sto) : List (DK × D) → List (DK × D) → Option Bool
  | _, [] => some true
  | kb, (k, d) :: r => match val kb k with
    | none => some false
    | some w => (match py S d, py S w, eqK S kb r with
      | some a, some b, some c => some (PyData.eqv a b && c)
      | _, _, _ => none)
/-- .. their values data -/
def eqDct (S : Sto) (x y : D) : Option Bool := match dctD S x, dctD S y with
  | some (false, ka), some (false, kb) => if ka.length = kb.length then eqK S kb ka else some false
  | _, _ => none
def eqDO : D → D → M D := fun x y S => match eqDct S x y with
  | some b => .ok (.bl b) S
  | none => .stk
def neDO : D → D → M D := fun x y S => match eqDct S x y with
  | some b => .ok (.bl (!b)) S
  | none => .stk
theorem eqK_ok (hK : G.K = X.K) (hu : X.A.units + 64 < cLine) {μ : Nat → Addr} {S : Sto} {H : Hp} {pins : List (Addr × Obj)} {σ : L2.St} {s : Shared} (I : Inv X pins σ H s) (L : Lnk G μ S H) {kb : List (DK × D)} {lb : List (Key × V)} {vb : List (Key × Value)} (rb : RVk G μ S.n H kb (lb.map fun p => (DK.k p.1, p.2))) (tb : KV lb vb) :
    ∀ {ka : List (DK × D)} {la : List (Key × V)} {va : List (Key × Value)} {b : Bool}, RVk G μ S.n H ka (la.map fun p => (DK.k p.1, p.2)) → KV la va → eqK S kb ka = some b → PySem.W.KeqHits X.A.in1 s vb va b
  | [], [], va, b, _, t, e => by
    cases t
    cases e
    exact .nil
  | [], _ :: _, _, _, h, _, _ => by cases (show _ = _ from h)
  | (k0, d) :: ka, [], _, _, ⟨v, r, e, _⟩, _, _ => by cases e
  | (k0, d) :: ka, (k', v') :: la, (k2, u) :: va, b, ⟨v, r, ev, h1, h2⟩, .cons ⟨q1, q2⟩ t, e => by
    rw [List.map_cons] at ev
    injection ev with e1 e2
    injection e1 with e3 e4
    subst e2 e3 e4
    have q1 : k' = k2 := q1
    subst q1
    have q2 : RelV v' u := q2
    have hv := val_valV (fun _ _ => dk_inj) rb k'
    have hw := tb.val k'
    unfold eqK at e
    cases e5 : val kb (.k k') with
    | none =>
      rw [e5] at hv e
      cases e
      cases e6 : valV lb k' with
      | some _ => rw [e6] at hv; exact hv.elim
      | none =>
        rw [e6] at hw
        exact .miss (RelO.none_of hw)
    | some w =>
      rw [e5] at hv e
      simp only at e
      cases e6 : valV lb k' with
      | none => rw [e6] at hv; exact hv.elim
      | some wv =>
        rw [e6] at hv hw
        obtain ⟨y, ey, ry⟩ := RelO.some_of hw
        cases e7 : py S d with
        | none => rw [e7] at e; cases e
        | some pa =>
          cases e8 : py S w with
          | none => rw [e7, e8] at e; cases e
          | some pb =>
            cases e9 : eqK S kb ka with
            | none => rw [e7, e8, e9] at e; cases e
            | some c =>
              rw [e7, e8, e9] at e
              cases e
              obtain ⟨a1, a2, a3⟩ := toPy_ok L 12 d v' pa h1 e7
              obtain ⟨b1, b2, b3⟩ := toPy_ok L 12 w wv pb hv e8
              rw [hK] at a1 b1
              obtain ⟨as, ra⟩ := Dp.reads I pa v' u a1 q2
              obtain ⟨bs, rb'⟩ := Dp.reads I pb wv y b1 ry
              exact .hit ey (SeqAt.eqAt_plain pa pb X.A.in1 s u y as bs ra rb' a2 b2 (by
                have := Nat.min_le_left pa.depth pb.depth
                show X.A.units + 1 + _ < _
                omega)) (eqK_ok hK hu I L rb tb h2 t e9)
theorem eqDct_ok (hK : G.K = X.K) (hu : X.A.units + 64 < cLine) {μ : Nat → Addr} {S : Sto} {H : Hp} {pins : List (Addr × Obj)} {σ : L2.St} {s : Shared} (I : Inv X pins σ H s) (L : Lnk G μ S H) {x y : D} {v w : V} {vv ww : Value} {b : Bool} (rx : RV G μ S.n H x v) (ry : RV G μ S.n H y w) (r1 : RelV v vv) (r2 : RelV w ww) (e : eqDct S x y = some b) :
    ∃ a c va vc r, vv = .ref a ∧ ww = .ref c ∧ (a == sysModules) = false ∧ (c == sysModules) = false ∧ s.heap.DictOf (mixKind X.prog X.w) a va ∧ s.heap.DictOf (mixKind X.prog X.w) c vc ∧ (va.length = vc.length → PySem.W.KeqHits X.A.in1 s vc va r) ∧ (va.length == vc.length && r) = b := by
  unfold eqDct at e
  split at e
  · rename_i ka kb e1 e2
    obtain ⟨a, us, o, rfl, h1, h2, h3⟩ := dctD_ok L rx e1
    obtain ⟨c, ws, o', rfl, h1', h2', h3'⟩ := dctD_ok L ry e2
    cases h2 with
    | k la =>
      cases h2' with
      | k lb =>
        obtain ⟨_, ya, va, ra, da⟩ := dk_rd I.hok h1
        obtain ⟨_, yb, vb, rb, db⟩ := dk_rd I.hok h1'
        have la1 : ka.length = la.length := by rw [h3.length, List.length_map]
        have lb1 : kb.length = lb.length := by rw [h3'.length, List.length_map]
        have la2 : la.length = va.length := ra.length
        have lb2 : lb.length = vb.length := rb.length
        by_cases hl : ka.length = kb.length
        · rw [if_pos hl] at e
          refine ⟨a, c, va, vb, b, r1, r2, ya, yb, da, db, fun _ => eqK_ok hK hu I L h3' rb h3 ra e, ?_⟩
          have : (va.length == vb.length) = true := by rw [beq_iff_eq]; omega
          rw [this]; rfl
        · rw [if_neg hl] at e
          cases e
          refine ⟨a, c, va, vb, true, r1, r2, ya, yb, da, db, fun z => absurd z (by omega), ?_⟩
          have : (va.length == vb.length) = false := by rw [beq_eq_false_iff_ne]; omega
          rw [this]; rfl
  · cases e
theorem od_eqDO (hK : G.K = X.K) (hu : X.A.units + 64 < cLine) : OpD X G W (compareOp .Eq) eqDO := fun pins s σ H x y v u Q I rx ry ⟨d, e, S, μ, L, r1, r2, p⟩ => by
  unfold eqDO at p
  cases h : eqDct S d e with
  | none => rw [h] at p; exact p.elim
  | some b =>
    rw [h] at p
    obtain ⟨a, c, va, vc, r, rfl, rfl, ya, yb, da, db, hits, eb⟩ := eqDct_ok hK hu I L r1 r2 rx ry h
    exact PySem.W.keq_eq ya yb da db (by omega) hits ⟨.bl _, H, I, rfl, by rw [eb]; exact (Post.here (W := W) L p) _ rfl⟩
theorem od_neDO (hK : G.K = X.K) (hu : X.A.units + 64 < cLine) : OpD X G W (compareOp .NotEq) neDO := fun pins s σ H x y v u Q I rx ry ⟨d, e, S, μ, L, r1, r2, p⟩ => by
  unfold neDO at p
  cases h : eqDct S d e with
  | none => rw [h] at p; exact p.elim
  | some b =>
    rw [h] at p
    obtain ⟨a, c, va, vc, r, rfl, rfl, ya, yb, da, db, hits, eb⟩ := eqDct_ok hK hu I L r1 r2 rx ry h
    exact PySem.W.keq_ne ya yb da db (by omega) hits ⟨.bl _, H, I, rfl, by rw [eb]; exact (Post.here (W := W) L p) _ rfl⟩
end
end Fd

set_option Elab.async false
set_option linter.all false
set_option maxRecDepth 100000
set_option maxHeartbeats 1000000
namespace Fd
open PySem PySem.Spec PyProof.Rows L2 LamX
section
variable {X : Cx} {G : Gx} {W : XK} {o e : Expr} {fo fe : En → M D} {apos cpos pos p : Pos}
/-! ### told(lambda: body) -/
def toldE (okc : Nat → Bool) (ret : Str) (fb : En → M D) : En → M D := fun σ S => match fb σ S with
  | .ok d S' => .ok d S'
  | .exc c S' => if okc c = true then .ok (.str ret) S' else .stk
  | .stk => .stk
structure MPc (X : Cx) (G : Gx) (k : Nat) (scope : Scope) (body : Expr) (fb : En → M D) : Prop where
  run : ∀ (A : Around) (outer : List Env) (s : Shared) (H : Hp) (E : XK) (f c' : Addr), Room k (A.deeper (lamEnv X scope s.heap.objs.size f c')) → TakesD (lamCx X A outer s H E scope f c') E → SE (lamCx X A outer s H E scope f c') G E body fb
theorem se_told {T : List (Addr × Str)} {x a er q0 ret : Str} {g c P CS : Addr} {k : Nat} {pg : Arguments} {sg : Scope} {dV kV doc pm cdv ct oc : Value} {an od : Option Addr} {osl : Array (Option Value)} {Ng : List Str} {okc : Nat → Bool}
    {params : Arguments} {body : Expr} {scope : Scope} {fb : En → M D} {lpos : Pos} {j : Nat} {p1 p2 p3 p4 p5 p6 p7 p8 : Pos} (hT : G.T = Tabs T) (hm : X.mg x = some (.ref g)) (hk : PySem.W.keepIn X.K (.ref g) = true)
    (lk : X.K.lookup g = some ⟨oc, od, .func (PySem.W.fnOf x x pg [.Try [.Return (some (.Call (.Name a p1) [] [] p2)) p3] [.ExceptHandler (some (.Name er p4)) none [.Return (some (.Constant (.str ret) j p5)) p6] p7] [] [] p8] sg dV kV doc pm an cdv ct), osl⟩) (hcg : PySem.W.codeIn X.K cdv x = true)
    (hb : L2.Binds X.K (PySem.W.fnOf x x pg [.Try [.Return (some (.Call (.Name a p1) [] [] p2)) p3] [.ExceptHandler (some (.Name er p4)) none [.Return (some (.Constant (.str ret) j p5)) p6] p7] [] [] p8] sg dV kV doc pm an cdv ct) [a] []) (Sg : FnScope Ng [a] sg) (hNg : Ng[0]? = some a) (hva : Vis sg a)
    (hge : sg.names.lookup er = some .globalImplicit) (hme : X.mg er = some (.ref CS)) (hde : (er == ("__debug__" : Str)) = false) (h0 : ∀ f : Addr, (L2.start Ng [V.ref f])[0]? = some (some (V.ref f)))
    (TB : TabB X.base X.mg c P) (hcode : X.env.code = .ref c) (hmT : (P, X.env.qual ++ "<lambda>") ∈ T) (hu : ∀ p ∈ T, p.1 = P → p.2 = X.env.qual ++ "<lambda>") (hr : Room (k + 2) X.A) (L : LamS X.env.scope scope)
    (hexc : ∀ i, okc i = true → PySem.W.exmOne X.K (.ref (G.cA i)) (.ref CS) = some true) (mp : MPc X G k scope body fb) (hg : Gl X x := by rfl) (hdef : defaultsOf params X.env = ([], []) := by rfl)
    (hbind : ∀ (q : Str) (cl : List (Str × Addr)) (pm cv ctv : Value), bindArgs (PySem.W.kla_fn "<lambda>" q params body scope cl pm cv ctv) ⟨[], []⟩ = pure [] := by intros; rfl)
    (hdb : (x == ("__debug__" : Str)) = false := by decide) (hd : (a == ("__debug__" : Str)) = false := by decide) (hcd : (a == ("__classdict__" : Str)) = false := by decide) :
    SE X G W (.Call (.Name x p) [.Lambda params body scope lpos] [] pos) (toldE okc ret fb) := by
  refine pe_imp (pe_lamcall (T := T) (TT := TTold X.K CS ret) (t := fun E => rdE G E fb) (Ng := Ng) (k := k) hg hm hk lk hcg hb Sg hNg hva (told_gives hge hme hde h0) TB hcode hmT hu hr L hdef hbind (fun A outer s H E f c' hr' => mp.run A outer s H E f c' hr' (takes_of rfl rfl rfl rfl)) hdb hd hcd) fun σ H Q ⟨σd, S, μ, a0, h⟩ => ?_
  refine ⟨by rw [← hT]; exact a0.lnk.tab, fun H1 e1 t1 => ?_⟩
  have st := Stp.extN a0.lnk hT e1 t1
  refine ⟨σd, S, μ, a0.step st, ?_⟩
  have h := h.later st
  unfold toldE at h
  cases eb : fb σd S with
  | stk => rw [eb] at h; exact h.elim
  | ok d S' => rw [eb] at h; exact h
  | exc i S' =>
    rw [eb] at h
    by_cases hi : okc i = true
    · simp only [hi, if_true] at h
      intro μ' H' s'
      exact ⟨true, hexc i hi, fun _ => h μ' H' s' _ rfl, fun z => by cases z⟩
    · simp only [hi, if_false] at h
      exact h.elim
/-! ### sum(d.values()) -/
def sumsOk (is : List Int) : Bool := (List.range is.length).all fun j => inLong (is.getD j 0) && inLong (is.take (j + 1)).sum
theorem preSum_take (is : List Int) : ∀ j, j ≤ is.length → PySem.preSum (fun i => is.getD i 0) j = (is.take j).sum
  | 0, _ => rfl
  | j + 1, h => by
    show PySem.preSum (fun i => is.getD i 0) j + is.getD j 0 = _
    rw [preSum_take is j (Nat.le_of_succ_le h), List.take_add_one, List.getElem?_eq_getElem h, List.sum_append, List.getD_eq_getElem?_getD, List.getElem?_eq_getElem h]
    simp
def tSumVals (td : TE) : TE := fun σ H Q => td σ H fun x H1 => ∃ a kvs is, x = V.ref a ∧ H1 a = some (.dK kvs) ∧ kvs.map (·.2) = is.map V.int ∧ sumsOk is = true ∧ Q (.int is.sum) H1
theorem pe_sumVals {td : TE} (hc : X.calm = true) (hg : Gl X "sum") (hm : X.mg "sum" = none) (hd : PE X o td) (hbase : attributeBase o "values" X.env (eval o X.env) = eval o X.env := by rfl) (hline : (apos.endLine == cpos.line) = true := by rfl)
    (hse : starEach [Expr.Call (.Attribute o "values" apos) [] [] cpos] X.env = [(false, eval (Expr.Call (.Attribute o "values" apos) [] [] cpos) X.env)] := by rfl) :
    PE X (.Call (.Name "sum" p) [.Call (.Attribute o "values" apos) [] [] cpos] [] pos) (tSumVals td) := by
  refine ⟨fun pins s σ H Q I h => ?_⟩
  refine wpAny_Call_Name_kw (ld_blt I hg hm (u := .builtin "sum") (by first | rfl | decide +kernel) ?_ (by first | decide +kernel | decide) (by first | decide +kernel | decide))
  rw [hse]
  refine PySem.callWith_builtin1 (wpAny_Call_method0_late hbase hline (wpAny_mono (hd.run pins s σ H _ I h) (fun v s1 ⟨x, H1, I1, r1, a, kvs, is, ex, ha, hv, hne, q⟩ => ?_) fun _ _ x => x))
  subst ex
  obtain rfl : v = Value.ref a := r1
  obtain ⟨_, hsys, vs, rel, dof⟩ := dk_of I1.hok ha
  obtain ⟨ep, dat⟩ := dof.dictAt
  have dat' := dat
  obtain ⟨ob, es, ho, ex, hdat, hko, hpr, hnd⟩ := dat'
  refine ⟨"dict", "dict.values", F.plainAttrs_dict, F.slot_dict_values, F.type_dict_values, ⟨ob, ho, ex.1⟩, fun b e => ?_, Calls.callWith_builtin rfl (PySem.evalArgs_none ?_)⟩
  · cases e
    exact ⟨ob, ho, ex.2.1⟩
  refine call_meetsIn F.slot_dict_values ⟨ob, ho, ex.1⟩ F.entry_dict_values (F.args_dict_values_1 _) (meets_dict_values (mixKind X.prog X.w) a hsys) ⟨⟨vs, dof⟩, ?_⟩
  have k1 : ∀ b u, s1.heap.get? b = some u → (s1.heap.push { cls := .type "dict_values", data := .fields #[.ref a] }).get? b = some u := fun b u e => Heap.get?_push_of_some _ e
  have dat1 : (s1.heap.push { cls := .type "dict_values", data := .fields #[.ref a] }).DictAt (mixKind X.prog X.w) a vs ep := dat.keep k1
  have hlv : vs.length = is.length := by
    have e1 := congrArg List.length hv
    rw [List.length_map, List.length_map] at e1
    rw [← e1]
    exact (KV.length rel).symm
  have hval : ∀ (i : Nat) (v : Value), (∃ k, vs[i]? = some (k, v)) → ∃ t, v = Value.int (is.getD i 0) t := fun i v ⟨k, hk⟩ => by
    obtain ⟨x, h1, h2⟩ := KV.at' rel hk
    have e1 : (kvs.map (·.2))[i]? = some x := by rw [List.getElem?_map, h1] <;> rfl
    rw [hv, List.getElem?_map] at e1
    obtain ⟨j, hj, e2⟩ := Option.map_eq_some_iff.mp e1
    subst e2
    obtain ⟨t, e3⟩ := h2
    refine ⟨t, ?_⟩
    rw [e3, List.getD_eq_getElem?_getD, hj] <;> rfl
  have hfit : ∀ j, j < vs.length → PySem.InLong (is.getD j 0) ∧ PySem.InLong (PySem.preSum (fun i => is.getD i 0) (j + 1)) := fun j hj => by
    unfold sumsOk at hne
    rw [List.all_eq_true] at hne
    have z := hne j (List.mem_range.mpr (by omega))
    rw [preSum_take is (j + 1) (by omega)]
    unfold inLong at z
    simp only [Bool.and_eq_true, decide_eq_true_eq] at z
    exact z
  have hlt : a < s1.heap.objs.size := Heap.lt_size ho
  have hsz : (s1.heap.push { cls := .type "dict_values", data := .fields #[.ref a] }).objs.size = s1.heap.objs.size + 1 := Heap.size_push _ _
  refine call_sum_walk (wpAny_pyIter_values (v := s1.heap.objs.size) (d := a) ⟨_, Heap.get?_push_size _ rfl, rfl, rfl⟩ dat1 ?_)
  refine ⟨_, _, _, _, _, _, _, rfl, Walks.dictValues (knd := mixKind X.prog X.w) (A := X.A.in1) (I.ok.hd hc) (s1.heap.push { cls := .type "dict_values", data := .fields #[.ref a] }).objs.size a (by rw [hsz]; exact Nat.ne_of_lt (Nat.lt_succ_of_lt hlt)) vs ep,
    ⟨⟨_, Heap.get?_push_size _ rfl, rfl, rfl⟩, dat1.keep fun b u e => Heap.get?_push_of_some _ e⟩, fun b hb => ?_, hval, hfit, fun h' tk t' hk => ?_⟩
  · show b < ((s1.heap.push _).push _).objs.size
    rw [Heap.size_push, Heap.size_push]
    rw [hsz] at hb
    rcases List.mem_cons.mp hb with e | hb
    · rw [e]
      exact Nat.lt_succ_self _
    · have e : b = a := List.mem_singleton.mp hb
      rw [e]
      exact Nat.lt_succ_of_lt (Nat.lt_succ_of_lt hlt)
  · rw [hlv, preSum_take is is.length (Nat.le_refl _), List.take_length]
    refine ⟨.int _, H1, I1.kept (t' := tk) fun b u e => hk b u (fun hmem => ?_) (Heap.get?_push_of_some _ (k1 b u e)), ⟨t', rfl⟩, q⟩
    have e1 : b = (s1.heap.push { cls := .type "dict_values", data := .fields #[.ref a] }).objs.size := List.mem_singleton.mp hmem
    have e2 := Heap.lt_size e
    rw [hsz] at e1
    rw [e1] at e2
    exact absurd e2 (Nat.not_lt.mpr (Nat.le_succ _))
def sumValsE (fo : En → M D) : En → M D := fun σ => fo σ >>= fun d S => match ownK S d with
  | some (_, kvs) => if (allInts (kvs.map (·.2)) && sumsOk ((kvs.map (·.2)).map dI)) = true then .ok (.int ((kvs.map (·.2)).map dI).sum) S else .stk
  | none => .stk
theorem rvk_ints {μ : Nat → Addr} {n : Nat} {H : Hp} : ∀ {kvs : List (DK × D)} {l : List (Key × V)}, RVk G μ n H kvs (l.map fun p => (DK.k p.1, p.2)) → RVs G μ n H (kvs.map (·.2)) (l.map (·.2))
  | [], [], _ => rfl
  | [], _ :: _, h => by cases (show _ = _ from h)
  | (k0, d) :: kvs, [], ⟨v, r, e, _⟩ => by cases e
  | (k0, d) :: kvs, (k', v') :: l, ⟨v, r, e, h1, h2⟩ => by
    rw [List.map_cons] at e
    injection e with e1 e2
    injection e1 with e3 e4
    subst e2 e4
    exact ⟨v', l.map (·.2), rfl, h1, rvk_ints h2⟩
theorem ownK_ok {μ : Nat → Addr} {S : Sto} {H : Hp} (L : Lnk G μ S H) {d : D} {v : V} {l : Nat} {kvs : List (DK × D)} (r : RV G μ S.n H d v) (e : ownK S d = some (l, kvs)) : d = .ref l ∧ l < S.n ∧ S.locked l = false ∧ v = .ref (μ l) ∧ ∃ ls, H (μ l) = some (.dK ls) ∧ RVk G μ S.n H kvs (ls.map fun p => (DK.k p.1, p.2)) := by
  cases d with
  | ref l' =>
    obtain ⟨hl, rfl⟩ := r
    have e : (if S.locked l' = true then none else match S.objs[l']? with | some (.dct false kvs) => some (l', kvs) | _ => none) = some (l, kvs) := e
    by_cases hk : S.locked l' = true
    · rw [if_pos hk] at e; cases e
    · have hk' : S.locked l' = false := by simpa using hk
      rw [if_neg hk] at e
      cases eo : S.objs[l']? with
      | none => rw [eo] at e; cases e
      | some ob =>
        rw [eo] at e
        cases ob with
        | lst _ => cases e
        | ins _ _ => cases e
        | dct t ks =>
          cases t with
          | true => cases e
          | false =>
            cases e
            obtain ⟨us, u, h1, h2, h3⟩ := L.ob _ _ eo
            rw [hk'] at h1
            have h1 : H (μ l) = some u := h1
            cases h2 with
            | k ls => exact ⟨rfl, hl, hk', rfl, ls, h1, h3⟩
  | _ => cases e
theorem se_sumVals (hc : X.calm = true) (hm : X.mg "sum" = none) (ho : SE X G W o fo) (hg : Gl X "sum" := by rfl) (hbase : attributeBase o "values" X.env (eval o X.env) = eval o X.env := by rfl) (hline : (apos.endLine == cpos.line) = true := by rfl)
    (hse : starEach [Expr.Call (.Attribute o "values" apos) [] [] cpos] X.env = [(false, eval (Expr.Call (.Attribute o "values" apos) [] [] cpos) X.env)] := by rfl) : SE X G W (.Call (.Name "sum" p) [.Call (.Attribute o "values" apos) [] [] cpos] [] pos) (sumValsE fo) :=
  pe_imp (pe_sumVals hc hg hm ho hbase hline hse) fun σ H Q ⟨σd, S, μ, a0, h⟩ => by
    refine rdE_bind (k := fun _ d S => match ownK S d with | some (_, kvs) => if (allInts (kvs.map (·.2)) && sumsOk ((kvs.map (·.2)).map dI)) = true then R.ok (D.int ((kvs.map (·.2)).map dI).sum) S else R.stk | none => R.stk) a0 h fun d S1 μ1 H1 v s a1 r p => ?_
    cases e1 : ownK S1 d with
    | none => rw [e1] at p; exact p.elim
    | some q =>
      obtain ⟨l, kvs⟩ := q
      rw [e1] at p
      simp only at p
      by_cases hc' : (allInts (kvs.map (·.2)) && sumsOk ((kvs.map (·.2)).map dI)) = true
      · rw [if_pos hc'] at p
        rw [Bool.and_eq_true] at hc'
        obtain ⟨_, _, _, rfl, ls, h1, h2⟩ := ownK_ok a1.lnk r e1
        exact ⟨_, ls, _, rfl, h1, rvs_ints (rvk_ints h2) hc'.1, hc'.2, (Post.here (W := W) a1.lnk p) _ rfl⟩
      · rw [if_neg hc'] at p; exact p.elim
end
end Fd

set_option Elab.async false
set_option linter.all false
set_option maxRecDepth 100000
set_option maxHeartbeats 1000000
namespace Fd
open PySem PySem.Spec PyProof.Rows L2 LamX
/-! ### lambdas that stand in a list: the function object is known, its code object too -/
def LamO (f : Addr) (q : Str) (params : Arguments) (body : Expr) (scope : Scope) (cl : List (Str × Addr)) (c : Addr) : HO :=
  .ext fun h => ∃ (pm ctv : Value), h.get? f = some (PySem.W.kla_obj "<lambda>" q params body scope cl pm c ctv)
theorem lamO_ne {f c : Addr} {q : Str} {params : Arguments} {body : Expr} {scope : Scope} {cl : List (Str × Addr)} (ps : Array Value) : LamO f q params body scope cl c ≠ .tbl ps := fun z => by
  unfold LamO at z
  cases z
section
variable {X : Cx} {pins : List (Addr × Obj)} {σ : L2.St} {H : Hp} {s : Shared}
theorem inv_lam {q : Str} {params : Arguments} {body : Expr} {scope : Scope} {cl : List (Str × Addr)} {c : Addr} {pm ctv : Value} {t' : Nat} (I : Inv X pins σ H s) :
    Inv X pins σ (upd H s.heap.objs.size (LamO s.heap.objs.size q params body scope cl c)) { s with heap := s.heap.push (PySem.W.kla_obj "<lambda>" q params body scope cl pm c ctv), toks := t' } := by
  have e : (s.heap.push (PySem.W.kla_obj "<lambda>" q params body scope cl pm c ctv)).get? s.heap.objs.size = some (PySem.W.kla_obj "<lambda>" q params body scope cl pm c ctv) := Heap.get?_push_size _ rfl
  exact I.laid (a := s.heap.objs.size) (fun b u e => Heap.get?_push_of_some _ e) (Nat.le_refl _) ⟨⟨pm, ctv, e⟩, ⟨_, e⟩, fun h1 h2 ⟨p, z, g⟩ st => ⟨p, z, st _ g⟩⟩
theorem lamO_at {P : Program} {w : World} {h : Heap} {f c : Addr} {q : Str} {params : Arguments} {body : Expr} {scope : Scope} {cl : List (Str × Addr)} (hok : HOk P w H h) (e : H f = some (LamO f q params body scope cl c)) :
    ∃ pm ctv, h.get? f = some (PySem.W.kla_obj "<lambda>" q params body scope cl pm c ctv) := (hok f _ e).1
/-- the making, the object known -/
theorem lam_make3 {T : List (Addr × Str)} {c P : Addr} {params : Arguments} {body : Expr} {scope : Scope} {pos : Pos} {E : Value → Shared → Prop} {Q : Value → Shared → Prop} (J : Inv X pins σ H s) (tb : TabB X.base X.mg c P) (hco : X.env.code = .ref c)
    (mT : (P, X.env.qual ++ "<lambda>") ∈ T) (uT : ∀ p ∈ T, p.1 = P → p.2 = X.env.qual ++ "<lambda>") (hT : Tabs T H) (hde : defaultsOf params X.env = ([], [])) (hfr : ∀ y ∈ scope.names, y.2 = .free → ∃ c, X.env.cells.lookup y.1 = some c)
    (k : ∀ (f c' : Addr) (H1 : Hp) (s' : Shared), Inv X pins σ H1 s' → ExtN H H1 → Tabs T H1 → H f = none → H1 f = some (LamO f (X.env.qual ++ "<lambda>") params body scope (cloFrom X.env.cells scope.names []) c') → H1 c' = some (CodeO c' (X.env.qual ++ "<lambda>")) → Q (.ref f) s') :
    wpAny (model X.prog X.w) X.A (eval (.Lambda params body scope pos) X.env) Q E s := by
  obtain ⟨tp, eP, tr, among⟩ := hT _ mT
  refine PySem.W.kla_eval hde ?_
  have bP := tb.bm.keeps J.bk
  have gP := J.hok P _ eP
  cases hf : codeAmong pos tp.toList with
  | some cv =>
    obtain ⟨c', e, hc'⟩ := among pos cv hf
    subst e
    refine PySem.W.kla_makeFunctionHit (mg := X.mg) (c := c) (P := P) (ps := tp) (closure_ok hfr) (J.ok.glob) (J.mod.glob.keeps J.bk) hco (tb.code.keeps J.bk) gP tr hf bP fun ctv g tk kp hz => ?_
    have J1 : Inv X pins σ H { s with heap := g, toks := tk } := J.kept kp
    have J2 := inv_lam (t' := tk) (q := X.env.qual ++ "<lambda>") (params := params) (body := body) (scope := scope) (cl := cloFrom X.env.cells scope.names []) (c := c') (pm := (X.mg "__name__").getD .none) (ctv := ctv) J1
    have nf : H g.objs.size = none := J.hok.fresh hz
    have st : ∀ b o, H b = some o → (upd H g.objs.size (LamO g.objs.size (X.env.qual ++ "<lambda>") params body scope (cloFrom X.env.cells scope.names []) c')) b = some o := fun b o e => (upd_ne (ne_of_none e nf)).trans e
    exact k g.objs.size c' _ _ J2 (.of st) (hT.ext st) nf upd_same (st _ _ hc')
  | none =>
    refine PySem.W.kla_makeFunction (mg := X.mg) (c := c) (P := P) (ps := tp) (closure_ok hfr) (J.ok.glob) (J.mod.glob.keeps J.bk) hco (tb.code.keeps J.bk) gP tr hf tb.gP bP fun c' ctv g tk kp hge hlt hrec htb => ?_
    obtain ⟨c2, oc, vs, t, e2, hoc, hd, hv⟩ := hrec
    cases e2
    have hz : s.heap.objs.size ≤ g.objs.size := Nat.le_trans hge (Nat.le_of_lt hlt)
    have nC : H c' = none := J.hok.fresh hge
    have J1 := inv_table (t' := tk) (h' := g) (more := #[rawInt pos.line, rawInt pos.col, .ref c']) J eP (fun b o hb e => kp b o hb e) htb hge ⟨oc, vs, t, hoc, hd, hv⟩
    have J2 := inv_lam (t' := tk) (q := X.env.qual ++ "<lambda>") (params := params) (body := body) (scope := scope) (cl := cloFrom X.env.cells scope.names []) (c := c') (pm := (X.mg "__name__").getD .none) (ctv := ctv) J1
    generalize hT1 : (upd (upd H P (.tbl (tp ++ #[rawInt pos.line, rawInt pos.col, .ref c']))) c' (CodeO c' (X.env.qual ++ "<lambda>")) : Hp) = Ht at J1 J2
    have x1 : ExtN H Ht := fun b o e n => by
      rw [← hT1, upd_ne (ne_of_none e nC), upd_ne fun z => n tp (Option.some.inj (e.symm.trans (by rw [z]; exact eP)))]
      exact e
    have hc1 : Ht c' = some (CodeO c' (X.env.qual ++ "<lambda>")) := by rw [← hT1]; exact upd_same
    have eq : (tp ++ #[rawInt pos.line, rawInt pos.col, .ref c']).toList = tp.toList ++ [rawInt pos.line, rawInt pos.col, .ref c'] := by simp
    have T1 : Tabs T Ht := fun p hp => by
      by_cases hb : p.1 = P
      · rw [uT p hp hb, hb]
        refine ⟨_, (by rw [← hT1, upd_ne (ne_of_none eP nC)]; exact upd_same), (by rw [eq]; exact PySem.TriplesOk_snoc _ _ _ _ tr), fun p' cv hcv => ?_⟩
        rw [eq] at hcv
        rcases among_app _ tr hcv with z | z
        · obtain ⟨c0, e1, e2⟩ := among p' cv z
          exact ⟨c0, e1, (x1 _ _ e2 codeO_ne)⟩
        · exact ⟨c', z, hc1⟩
      · obtain ⟨ps', a1, a2, a3⟩ := hT p hp
        refine ⟨ps', (by rw [← hT1, upd_ne (ne_of_none a1 nC), upd_ne hb]; exact a1), a2, fun p' cv hcv => ?_⟩
        obtain ⟨c0, e1, e2⟩ := a3 p' cv hcv
        exact ⟨c0, e1, (x1 _ _ e2 codeO_ne)⟩
    have nf : Ht g.objs.size = none := by
      rw [← hT1, upd_ne (Nat.ne_of_gt hlt), upd_ne (Nat.ne_of_gt (Nat.lt_of_lt_of_le (Heap.lt_size gP) hz))]
      exact J.hok.fresh hz
    have st : ∀ b o, Ht b = some o → (upd Ht g.objs.size (LamO g.objs.size (X.env.qual ++ "<lambda>") params body scope (cloFrom X.env.cells scope.names []) c')) b = some o := fun b o e => (upd_ne (ne_of_none e nf)).trans e
    exact k g.objs.size c' _ _ J2 (x1.trans (.of st)) (T1.ext st) (J.hok.fresh hz) upd_same (st _ _ hc1)
end
/-! ### a lambda as a value -/
/-- what the i-th lambda of the frame is: its parameters, body, scope -/
abbrev LamT : Type := Arguments × Expr × Scope
def lamPX (q : Str) (cells : List (Str × Addr)) (ls : List LamT) : Nat → Addr → Addr → HO → HO → Prop := fun i a c o oc => ∃ l, ls[i]? = some l ∧ o = LamO a (q ++ "<lambda>") l.1 l.2.1 l.2.2 (cloFrom cells l.2.2.names []) c ∧ oc = CodeO c (q ++ "<lambda>")
section
variable {X : Cx} {G : Gx} {W : XK} {pos p : Pos}
theorem se_lam (i : Nat) {T : List (Addr × Str)} {ls : List LamT} {c P : Addr} {params : Arguments} {body : Expr} {scope : Scope} (hT : G.T = Tabs T) (hl : G.lamP = lamPX X.env.qual X.env.cells ls) (TB : TabB X.base X.mg c P) (hcode : X.env.code = .ref c) (hmT : (P, X.env.qual ++ "<lambda>") ∈ T)
    (hu : ∀ p ∈ T, p.1 = P → p.2 = X.env.qual ++ "<lambda>") (L : LamS X.env.scope scope) (hi : ls[i]? = some (params, body, scope)) (hdef : defaultsOf params X.env = ([], []) := by rfl) : SE X G W (.Lambda params body scope pos) (fun _ => M.pure (.lam i)) := by
  refine ⟨fun pins s σ H Q I ⟨σd, S, μ, a0, h⟩ => ?_⟩
  have tH : Tabs T H := by rw [← hT]; exact a0.lnk.tab
  refine lam_make3 I TB hcode hmT hu tH hdef (L.has I.ok) fun f c' H1 s' I1 x1 t1 nf ef ec => ?_
  have st := Stp.extN a0.lnk hT x1 t1
  have no : ∀ (b : Addr) (φ : Heap → Prop), H1 b = some (.ext φ) → NotOwn μ S.n b := fun b φ e l hl q => by
    obtain ⟨o, eo⟩ := getE_of_lt hl
    obtain ⟨u, q1, _, q3, _⟩ := (st.lnk.ob l o eo).hd
    rw [q, e] at q1
    exact q3 φ (Option.some.inj q1).symm
  refine ⟨.ref f, H1, I1, rfl, Post.step st h _ ⟨f, _, c', _, rfl, no f _ (by unfold LamO at ef; exact ef), ef, ?_, fun ps => lamO_ne ps, no c' _ (by unfold CodeO at ec; exact ec), ec, fun ps => codeO_ne ps⟩⟩
  rw [hl]
  exact ⟨_, hi, rfl, rfl⟩
end
end Fd

set_option Elab.async false
set_option linter.all false
set_option maxRecDepth 100000
set_option maxHeartbeats 1000000
namespace Fd
open PySem PySem.Spec PyProof.Rows L2 LamX
/-! ### told(f), f a lambda that stands in a list, within a comprehension of the frame that made it -/
section
variable {X : Cx} {pins : List (Addr × Obj)} {σ : L2.St} {H HZ : Hp} {s s1 : Shared}
theorem lam_act {CXg : CXT} {Eg : XK} {Ng : List Str} {qg : Str} {sg : Scope} {g f c' : Addr} {cdg : Value} {params : Arguments} {body : Expr} {scope : Scope} {k i : Nat} {a : Str} {pn : List (Addr × Obj)} {xe : Value → Shared → Prop} {W : WX} {E : XK} {tb : TE} {p1 p2 : Pos}
    (J : Inv X pins σ H s) (Ls : LamS X.env.scope scope) (hbn : ∀ (q : Str) (cl : List (Str × Addr)) (pm cv ctv : Value), bindArgs (PySem.W.kla_fn "<lambda>" q params body scope cl pm cv ctv) ⟨[], []⟩ = pure [])
    (tk : Takes ((cxOf CXg X.prog X.w X.K X.mg X.base Ng qg sg g cdg X.A X.stack s H Eg).tr pn xe) W) (hEW : ∀ cls d σ' H', E cls d H' → W cls d σ' H') (room : Room (k + 1) (X.A.deeper (envOfC qg sg s.heap.objs.size g cdg)))
    (hbo : ∀ (A : Around) (outer : List Env) (s : Shared) (H : Hp), Room k (A.deeper (lamEnv X scope s.heap.objs.size f c')) → PE (lamCx X A outer s H E scope f c') body tb)
    (hNi : Ng[i]? = some a) (hvi : Vis sg a) (d1 : (a == ("__debug__" : Str)) = false := by decide) (d2 : (a == ("__classdict__" : Str)) = false := by decide) :
    PE ((cxOf CXg X.prog X.w X.K X.mg X.base Ng qg sg g cdg X.A X.stack s H Eg).tr pn xe) (.Call (.Name a p1) [] [] p2)
      (fun σZ HZ Q => σZ[i]? = some (some (.ref f)) ∧ HZ f = some (LamO f (X.env.qual ++ "<lambda>") params body scope (cloFrom X.env.cells scope.names []) c') ∧ HZ c' = some (CodeO c' (X.env.qual ++ "<lambda>")) ∧ tb σ HZ Q) := by
  refine ⟨fun pz sz σZ HZ Q IZ h => ?_⟩
  obtain ⟨hs, hf, hc, ht⟩ := h
  refine wpAny_Call_Name_kw (thn ((pe_var (pos := p1) (i := i) hNi hvi d1 d2).run pz sz σZ HZ (fun v H1 => v = .ref f ∧ H1 = HZ) IZ ⟨.ref f, hs, rfl, rfl⟩) fun u s1 ⟨v, H1, I1, r1, q1⟩ => ?_)
  obtain ⟨ev, eH⟩ := q1
  subst ev
  rw [eH] at I1
  obtain rfl : u = Value.ref f := r1
  obtain ⟨pm, ctv, of1⟩ := lamO_at I1.hok hf
  refine PySem.W.callWith_F0 ⟨_, _, _, _, of1⟩ ?_
  have un : Un (frs X.stack) [] H HZ s.heap s1.heap := I1.base
  obtain ⟨⟨oc, vs, t, hoc, hdc, hvc⟩, _, _⟩ := I1.hok c' _ hc
  have rc : codeAny (model X.prog X.w) (X.A.deeper (envOfC qg sg s.heap.objs.size g cdg)) (.call (.ref f) ⟨[], []⟩) (CR (L2.CX X.prog X.w) (envOfC qg sg s.heap.objs.size g cdg :: X.stack) X.prog X.w HZ s1 Q E) s1 := by
    refine PySem.W.kla_callFunE room.depth of1 rfl Ls.co Ls.gen rfl ⟨c', oc, vs, t, rfl, hoc, hdc, hvc⟩ ?_
    rw [hbn]
    refine wpAny_pure (wpAny_newFunctionEnv (fun y hy => (Ls.own y hy).2) (fun y hy => absurd hy (by simp)) (fun g₁ hns hsb => ⟨I1.nolimit.fresh _ hsb, ?_⟩) Ls.kind)
    show codeAny _ _ (.expr body (lamEnv X scope s1.heap.objs.size f c')) _ _
    have kp : ∀ b o, s1.heap.get? b = some o → g₁.get? b = some o := fun b o e => hsb.extBut b o (Nat.ne_of_lt (Heap.lt_size e)) (Heap.get?_push_of_some _ e)
    have J2 : Inv (lamCx X (X.A.deeper (envOfC qg sg s.heap.objs.size g cdg)) (envOfC qg sg s.heap.objs.size g cdg :: X.stack) s1 HZ E scope f c') [] σ HZ { s1 with heap := g₁, toks := s1.toks + ([] : List (Str × Value)).length } :=
      lam_start2 J Ls I1.env0 room.hd un hns kp
    refine PySem.W.kla_codeExpr (wpAny_mono ((hbo _ _ s1 HZ (room.deeper _)).run [] _ _ HZ Q J2 ht) (fun v s' hq => ?_) fun e s' hq => hq)
    obtain ⟨w', H', J', rv, q⟩ := hq
    exact ⟨w', H', J'.os, J'.bare, J'.base, J'.hok, rv, q⟩
  have hx : Passes (L2.CX X.prog X.w) ((cxOf CXg X.prog X.w X.K X.mg X.base Ng qg sg g cdg X.A X.stack s H Eg).tr pn xe) E := passes_call tk hEW
  refine wpAny_call (codeAny_mono rc fun r s' hq => ?_)
  cases r with
  | error e => exact (hx pz σZ HZ s1 e s' I1 hq)
  | ok fl =>
    cases fl with
    | ret u => exact (I1.after hq)
    | next => exact (hq : False).elim
    | brk => exact (hq : False).elim
    | cont => exact (hq : False).elim
/-- try: return a() / except e: return ret, told of f -/
theorem told_runs {Ng : List Str} {x a e q ret : Str} {sg : Scope} {g CS f c' : Addr} {cdg : Value} {j : Nat} {p1 p2 p3 p4 p5 p6 p7 p8 : Pos} {lo : HO} {Q : VK} {tl : XK → Hp → VK → Prop} (hge : sg.names.lookup e = some .globalImplicit) (hme : X.mg e = some (.ref CS)) (hde : (e == ("__debug__" : Str)) = false) (h0 : (L2.start Ng [V.ref f])[0]? = some (some (V.ref f)))
    (act : ∀ (W : WX) (pn : List (Addr × Obj)) (xe : Value → Shared → Prop) (E : XK) (p1 p2 : Pos), Takes ((cxOf C8.CX0 X.prog X.w X.K X.mg X.base Ng x sg g cdg X.A X.stack s H C8.E0).tr pn xe) W → (∀ cls d σ' H', E cls d H' → W cls d σ' H') →
      PE ((cxOf C8.CX0 X.prog X.w X.K X.mg X.base Ng x sg g cdg X.A X.stack s H C8.E0).tr pn xe) (.Call (.Name a p1) [] [] p2) (fun σZ HZ Q => σZ[0]? = some (some (.ref f)) ∧ HZ f = some lo ∧ HZ c' = some (CodeO c' q) ∧ tl E HZ Q))
    (hf : H f = some lo) (hc : H c' = some (CodeO c' q)) (h : TTold X.K CS ret tl H Q) :
    ∃ t, PSs (cxOf C8.CX0 X.prog X.w X.K X.mg X.base Ng x sg g cdg X.A X.stack s H C8.E0).nox [.Try [.Return (some (.Call (.Name a p1) [] [] p2)) p3] [.ExceptHandler (some (.Name e p4)) none [.Return (some (.Constant (.str ret) j p5)) p6] p7] [] [] p8] t ∧
      t { nx := fun _ H' => Q .non H', rt := Q } (L2.start Ng [.ref f]) H := by
  have hgl : Gl (cxOf C8.CX0 X.prog X.w X.K X.mg X.base Ng x sg g cdg X.A X.stack s H C8.E0).nox e := hge
  refine ⟨_, pss_one (ps_try_only (X := (cxOf C8.CX0 X.prog X.w X.K X.mg X.base Ng x sg g cdg X.A X.stack s H C8.E0).nox) (c := .ref CS)
      (tb := fun W D σ H => ∃ Ech : XK, (∀ cls d σ' H', Ech cls d H' → W cls d σ' H') ∧ σ[0]? = some (some (.ref f)) ∧ H f = some lo ∧ H c' = some (CodeO c' q) ∧ tl Ech H D.rt)
      rfl rfl ⟨hgl, hde, (.inl hme)⟩ LamX.takes0 (fun W pn xe tk _ => ?_) (fun a oe cls d pn _ _ => pss_one (ps_ret pe_str))), ?_⟩
  · refine ⟨fun pz s' σ H D I h' => ?_⟩
    obtain ⟨Ech, hW, h1, h2, h3, h4⟩ := h'
    exact (pss_one (ps_ret (pos := p3) (act W pn xe Ech p1 p2 tk hW))).run pz s' σ H D I ⟨h1, h2, h3, h4⟩
  · exact ⟨fun cls _ H' => ∃ b, PySem.W.exmOne X.K cls (.ref CS) = some b ∧ (b = true → Q (.str ret) H') ∧ (b = false → False), fun cls d σ' H' ⟨b, e1, e2, e3⟩ => ⟨b, e1, fun hb a _ => e2 hb, fun hb => (e3 hb)⟩, h0, hf, hc, h⟩
end
section
variable {X : Cx} {G : Gx} {pos pf p : Pos}
def toldV (okc : Nat → Bool) (ret : Str) (vs : List Nat) (j : Nat) (fbs : List (En → M D)) : En → M D := fun σ => getV j σ >>= fun d => match d with
  | .lam i => (match fbs[i]? with
    | some fb => toldE okc ret fb (wipeE σ vs)
    | none => M.stk)
  | _ => M.stk
/-- the bodies' readings -/
def MPcs (X : Cx) (G : Gx) (k : Nat) (ls : List LamT) (fbs : List (En → M D)) : Prop := ∀ (i : Nat) (l : LamT) (fb : En → M D), ls[i]? = some l → fbs[i]? = some fb → MPc X G k l.2.2 l.2.1 fb ∧ LamS X.env.scope l.2.2 ∧ ∀ (q : Str) (cl : List (Str × Addr)) (pm cv ctv : Value), bindArgs (PySem.W.kla_fn "<lambda>" q l.1 l.2.1 l.2.2 cl pm cv ctv) ⟨[], []⟩ = pure []
theorem se_toldf {pins : List (Addr × Obj)} {σ0 : L2.St} {s3 : Shared} {H2 : Hp} {C : Addr} {cl : List (Str × Addr)} {fp : List Addr} {cscope : Scope} {vs : List Nat} {x a er ret z : Str} {g CS : Addr} {k jz : Nat} {pg : Arguments} {sg : Scope} {dV kV doc pm cdv ct oc : Value} {an od : Option Addr} {osl : Array (Option Value)} {Ng : List Str} {okc : Nat → Bool}
    {ls : List LamT} {fbs : List (En → M D)} {j : Nat} {p1 p2 p3 p4 p5 p6 p7 p8 : Pos} (I3 : Inv X pins σ0 H2 s3) (hfp : ∀ b ∈ fp, FpOk X pins H2 b) (hl : G.lamP = lamPX X.env.qual X.env.cells ls) (hm : X.mg x = some (.ref g)) (hk : PySem.W.keepIn X.K (.ref g) = true)
    (lk : X.K.lookup g = some ⟨oc, od, .func (PySem.W.fnOf x x pg [.Try [.Return (some (.Call (.Name a p1) [] [] p2)) p3] [.ExceptHandler (some (.Name er p4)) none [.Return (some (.Constant (.str ret) j p5)) p6] p7] [] [] p8] sg dV kV doc pm an cdv ct), osl⟩) (hcg : PySem.W.codeIn X.K cdv x = true)
    (hb : L2.Binds X.K (PySem.W.fnOf x x pg [.Try [.Return (some (.Call (.Name a p1) [] [] p2)) p3] [.ExceptHandler (some (.Name er p4)) none [.Return (some (.Constant (.str ret) j p5)) p6] p7] [] [] p8] sg dV kV doc pm an cdv ct) [a] []) (Sg : FnScope Ng [a] sg) (hNg : Ng[0]? = some a) (hva : Vis sg a)
    (hge : sg.names.lookup er = some .globalImplicit) (hme : X.mg er = some (.ref CS)) (hde : (er == ("__debug__" : Str)) = false) (h0 : ∀ f : Addr, (L2.start Ng [V.ref f])[0]? = some (some (V.ref f))) (hr : Room (k + 2) X.A)
    (hexc : ∀ i, okc i = true → PySem.W.exmOne X.K (.ref (G.cA i)) (.ref CS) = some true) (mp : MPcs X G k ls fbs) (hN : X.N[jz]? = some z) (hv : Vis (compEnvC cscope cl C X.env).scope z) (hgx : (compEnvC cscope cl C X.env).kindOf x = some .globalImplicit)
    (hzd : (z == ("__debug__" : Str)) = false := by decide) (hzc : (z == ("__classdict__" : Str)) = false := by decide) (hdb : (x == ("__debug__" : Str)) = false := by decide) (hd : (a == ("__debug__" : Str)) = false := by decide) (hcd : (a == ("__classdict__" : Str)) = false := by decide) :
    PE (X.blk s3 H2 cscope (compEnvC cscope cl C X.env) fp) (.Call (.Name x p) [.Name z pf] [] pos) (rdEw G NoX σ0 vs (toldV okc ret vs jz fbs)) := by
  refine ⟨fun pb s σ H Q J ⟨hw, σd, S, μ, a0, h⟩ => ?_⟩
  unfold toldV at h
  have h := Post.bind (k := fun (d : D) => match d with
    | .lam i => (match fbs[i]? with
      | some fb => toldE okc ret fb (wipeE σd vs)
      | none => M.stk)
    | _ => M.stk) h
  unfold getV at h
  cases ez : σd[jz]? with
  | none => rw [ez] at h; exact h.elim
  | some od' =>
    cases od' with
    | none => rw [ez] at h; exact h.elim
    | some d =>
      rw [ez] at h
      have h := Post.here (W := NoX) a0.lnk h
      cases d with
      | lam i =>
        simp only at h
        cases ef : fbs[i]? with
        | none => rw [ef] at h; exact h.elim
        | some fb =>
          rw [ef] at h
          simp only at h
          obtain ⟨v, ev, rv⟩ := a0.en.at_ jz _ ez
          obtain ⟨f, lo, c', co, rfl, no1, hf, hP, _, no2, hc, _⟩ := rv
          rw [hl] at hP
          obtain ⟨l, el, e1, e2⟩ := hP
          subst e1 e2
          obtain ⟨m1, m2, m3⟩ := mp i l fb el ef
          have hgb : Gl (X.blk s3 H2 cscope (compEnvC cscope cl C X.env) fp) x := hgx
          refine wpAny_Call_Name_kw (ld_glob J hgb hm ?_ hdb)
          refine PySem.W.callWith_K (h₀ := X.base) J.ok.mod.kin hk ?_ (by rfl) (by rfl)
          show wpAny _ _ (spliced ((false, eval (.Name z pf) (compEnvC cscope cl C X.env)) :: backTo pos (starEach [] _))) _ _ s
          refine Calls.spliced_cons (thn ((pe_var (pos := pf) (i := jz) (X := X.blk s3 H2 cscope (compEnvC cscope cl C X.env) fp) hN hv hzd hzc).run pb s σ H (fun v H1 => v = .ref f ∧ H1 = H) J ⟨.ref f, ev, rfl, rfl⟩) fun u s1 ⟨v, H1, I1, r1, q1⟩ => ?_)
          obtain ⟨ev1, eH⟩ := q1
          subst ev1
          rw [eH] at I1
          obtain rfl : u = Value.ref f := r1
          refine Calls.spliced_nil ⟨I1.kIn, ?_⟩
          have J' : Inv X pins σ0 H s1 := I3.call' (ch := fp) I1.os I1.base I1.hok I1.bare fun b hb => let y := hfp b hb; ⟨y.2.2.2.1, y.2.1, y.2.2.2.2.1, y.2.2.2.2.2⟩
          have aw : At G (wipeE σd vs) S μ σ0 H := by
            have q := a0.wipe vs
            rw [hw] at q
            exact ⟨⟨by have := q.en.len; rw [wipe_length] at this; exact this, fun i d e => by
              obtain ⟨w, e1, e2⟩ := q.en.at_ i d e
              exact ⟨w, (wipe_some e1).1, e2⟩⟩, q.lnk⟩
          have hT : TTold X.K CS ret (fun E H' Q' => rdE G E fb σ0 H' Q') H Q := by
            refine ⟨wipeE σd vs, S, μ, aw, ?_⟩
            unfold toldE at h
            cases eb : fb (wipeE σd vs) S with
            | stk => rw [eb] at h; exact h.elim
            | ok d S' => rw [eb] at h; exact h
            | exc i S' =>
              rw [eb] at h
              by_cases hi : okc i = true
              · simp only [hi, if_true] at h
                intro μ' H' s'
                exact ⟨true, hexc i hi, fun _ => h μ' H' s' _ rfl, fun z => by cases z⟩
              · simp only [hi, if_false] at h
                exact h.elim
          have rc : codeAny (model X.prog X.w) X.A (.call (.ref g) ⟨[.ref f], []⟩) (CR C8.CX0 X.stack X.prog X.w H s1 Q C8.E0) s1 := by
            refine run_ofS (N := Ng) (ps := [a]) (us := [.ref f]) (vs := [.ref f]) lk hcg Sg hr J'.env0 (hb s1 [.ref f] I1.kIn rfl) (.cons rfl .nil) rfl fun hr' => ?_
            obtain ⟨t', ht', hq'⟩ := told_runs (X := X) (f := f) (c' := c') hge hme hde (h0 f) (fun W pn xe E p1 p2 tk hW => lam_act (i := 0) J' m2 m3 tk hW hr' (fun A outer s H hr2 => m1.run A outer s H E f c' hr2 (takes_of rfl rfl rfl rfl)) hNg hva hd hcd) hf hc hT
            exact ⟨t', ht'.nox, hq'⟩
          refine wpAny_call (codeAny_mono rc fun r s2 hq => ?_)
          cases r with
          | error e => exact ((show False from hq)).elim
          | ok fl =>
            cases fl with
            | ret u => exact (I1.after hq)
            | next => exact (hq : False).elim
            | brk => exact (hq : False).elim
            | cont => exact (hq : False).elim
      | _ => exact h.elim
end
end Fd

set_option Elab.async false
set_option linter.all false
set_option maxRecDepth 100000
set_option maxHeartbeats 1000000
namespace Fd
open PySem PySem.Spec PyProof.Rows L2
/-! ### what the head tells -/
abbrev TabQ : Type := He.Defn × Str
def TQ (tq : List TabQ) (K : PySem.W.Frag) : List (Addr × Str) := tq.map fun p => ((He.cT K p.1).2, p.2)
def GX (cls : List Str) (tq : List TabQ) (K : PySem.W.Frag) (lp : Nat → Addr → Addr → HO → HO → Prop) : Gx where
  K := K
  cA := fun i => He.ga K (cls.getD i "")
  lamP := lp
  T := LamX.Tabs (TQ tq K)
  tst := fun H H' k h p hp => by
    obtain ⟨ps, h1, h2, h3⟩ := h p hp
    exact ⟨ps, k _ _ h1 (.inl ⟨ps, rfl⟩), h2, fun pos cv e => by
      obtain ⟨c, e1, e2⟩ := h3 pos cv e
      exact ⟨c, e1, k _ _ e2 (.inr ⟨_, rfl⟩)⟩⟩
structure Ev (fa : List He.Fa) (fn : List He.DefD) (ts : List He.Tab) (tq : List TabQ) (ex : PySem.W.Frag → Bool) (w : World) (h : Heap) (K : PySem.W.Frag) (mg : Str → Option Value) (base : Heap) : Prop where
  X : K.In h
  N : h.Ns mainGlobals mg
  S : He.SaysX fa fn ts (tq.map (·.1)) ex w h K
  B : ∀ p ∈ tq.map (·.1), LamX.TabB base mg (He.cT K p).1 (He.cT K p).2
  D : ((TQ tq K).map (·.1)).Nodup
def fdOf (K : PySem.W.Frag) (p : Str × Option Str) : FuncData := match K.lookup (He.fAd K p) with
  | some ⟨_, _, .func fd, _⟩ => fd
  | _ => ⟨"", "", default, .stmts [], ⟨.function, [], false, false, []⟩, 0, [], .none, .none, .none, .none, none, .none, .none, 0⟩
section
variable {fa : List He.Fa} {fn : List He.DefD} {ts : List He.Tab} {tq : List TabQ} {ex : PySem.W.Frag → Bool} {w : World} {h : Heap} {K : PySem.W.Frag} {mg : Str → Option Value} {base : Heap}
theorem Ev.ok (e : Ev fa fn ts tq ex w h K mg base) (i : Nat) {f : He.Fa} (hi : fa[i]? = some f := by rfl) : f.ok K = true := e.S.t.d.fact i hi
theorem Ev.glo (e : Ev fa fn ts tq ex w h K mg base) (i : Nat) {x : Str} (hi : fa[i]? = some (.glo x) := by rfl) : mg x = some (.ref (He.ga K x)) := He.glo_ok e.X e.N (e.ok i hi)
theorem Ev.free (e : Ev fa fn ts tq ex w h K mg base) (i : Nat) {x : Str} (hi : fa[i]? = some (.free x) := by rfl) : mg x = none := He.free_ok e.X e.N (e.ok i hi)
theorem Ev.int (e : Ev fa fn ts tq ex w h K mg base) (i : Nat) {x : Str} {z : Int} (hi : fa[i]? = some (.int x z) := by rfl) : ∃ t, mg x = some (.int z t) := He.int_ok e.X e.N (e.ok i hi)
theorem Ev.cls (e : Ev fa fn ts tq ex w h K mg base) (i : Nat) {x : Str} (hi : fa[i]? = some (.cls x) := by rfl) : Cls K (He.ga K x) := He.cls_ok (e.ok i hi)
theorem Ev.noat (e : Ev fa fn ts tq ex w h K mg base) (i : Nat) {x f : Str} (hi : fa[i]? = some (.noat x f) := by rfl) : NoAttr K (He.ga K x) f := He.noat_ok (e.ok i hi)
theorem Ev.meth (e : Ev fa fn ts tq ex w h K mg base) (i : Nat) {x m : Str} (hi : fa[i]? = some (.meth x m) := by rfl) : Meth K (He.ga K x) m (He.fAd K (x, some m)) := He.meth_ok (e.ok i hi)
theorem Ev.mkr (e : Ev fa fn ts tq ex w h K mg base) (i : Nat) {x : Str} (hi : fa[i]? = some (.mkr x) := by rfl) : Mk K (He.ga K x) (He.fAd K (x, some "__init__")) := He.mkr_ok (e.ok i hi)
theorem Ev.exc (e : Ev fa fn ts tq ex w h K mg base) (i : Nat) {x : Str} (hi : fa[i]? = some (.exc x) := by rfl) : PySem.W.excIn K (He.ga K x) He.veBase "ValueError.__new__" = true ∧ PySem.W.keepIn K (.ref (He.ga K x)) = true ∧ PySem.W.subIn K (.ref (He.ga K x)) (.type "BaseException") = some true ∧
    PySem.W.typeIn K (.ref (He.ga K x)) = some (.type "type") := He.exc_ok (e.ok i hi)
theorem Ev.exm (e : Ev fa fn ts tq ex w h K mg base) (i : Nat) {x y : Str} {b : Bool} (hi : fa[i]? = some (.exm x y b) := by rfl) : PySem.W.exmOne K (.ref (He.ga K x)) (.ref (He.ga K y)) = some b := He.exm_ok (e.ok i hi)
/-- a def, by its place in the list -/
theorem Ev.def_ (e : Ev fa fn ts tq ex w h K mg base) (i : Nat) {d : He.DefD} (hi : fn[i]? = some d := by rfl) : FunD K d.name d.qual d.params d.body d.scope (d.dvs K) (d.kws K) (He.fAd K d.at_) (fdOf K d.at_) := by
  obtain ⟨fd, F⟩ := e.S.t.d.def_ i hi
  have q : fdOf K d.at_ = fd := by
    obtain ⟨oc, od, dV, kV, doc, pm, an, cdv, ct, osl, e1, lk, _⟩ := F.ex
    unfold fdOf
    rw [lk]
  rw [q]
  exact F
theorem Ev.binds (e : Ev fa fn ts tq ex w h K mg base) (i : Nat) {d : He.DefD} {ps : List Str} (hi : fn[i]? = some d) (hb : ∀ (doc pm : Value) (an : Option Addr) (cdv ct kV : Value) (us : List Value), us.length = ps.length → bindArgs (PySem.W.fnOf d.name d.qual d.params d.body d.scope .none kV doc pm an cdv ct) ⟨us, []⟩ = pure (ps.zip us)) (hd : d.dfl = []) : L2.Binds K (fdOf K d.at_) ps [] := by
  obtain ⟨oc, od, dV, kV, doc, pm, an, cdv, ct, osl, e1, lk, _, hD, _⟩ := (e.def_ i hi).ex
  rw [e1]
  have hz : dV = .none := by
    rcases hD with ⟨_, z⟩ | ⟨z, _⟩
    · exact z
    · exact absurd (show d.dvs K = [] by unfold He.DefD.dvs; rw [hd]; rfl) z
  subst hz
  exact .all fun us hl => hb doc pm an cdv ct kV us hl
theorem Ev.keep (e : Ev fa fn ts tq ex w h K mg base) (i : Nat) {d : He.DefD} (hi : fn[i]? = some d := by rfl) : PySem.W.keepIn K (.ref (He.fAd K d.at_)) = true := (e.def_ i hi).kp
/-- the table of a def that makes generators or lambdas -/
theorem Ev.tab (e : Ev fa fn ts tq ex w h K mg base) (i : Nat) {p : TabQ} (hi : tq[i]? = some p := by rfl) : LamX.TabB base mg (He.codeOf K p.1) (He.tabOf K (He.codeOf K p.1)) ∧ (He.tabOf K (He.codeOf K p.1), p.2) ∈ TQ tq K ∧ ∀ q ∈ TQ tq K, q.1 = He.tabOf K (He.codeOf K p.1) → q.2 = p.2 := by
  have hm := List.mem_of_getElem? hi
  have m : (He.tabOf K (He.codeOf K p.1), p.2) ∈ TQ tq K := List.mem_map.mpr ⟨p, hm, rfl⟩
  refine ⟨e.B p.1 (List.mem_map.mpr ⟨p, hm, rfl⟩), m, fun q hq eq => ?_⟩
  have key : ∀ (l : List (Addr × Str)) (a b : Addr × Str), (l.map (·.1)).Nodup → a ∈ l → b ∈ l → a.1 = b.1 → a = b := by
    intro l
    induction l with
    | nil => intro a b _ ha; cases ha
    | cons x r ih =>
      intro a b nd ha hb eab
      rw [List.map_cons, List.nodup_cons] at nd
      rcases List.mem_cons.mp ha with rfl | ha'
      · rcases List.mem_cons.mp hb with rfl | hb'
        · rfl
        · exact absurd (List.mem_map.mpr ⟨b, hb', eab.symm⟩) nd.1
      · rcases List.mem_cons.mp hb with rfl | hb'
        · exact absurd (List.mem_map.mpr ⟨a, ha', eab⟩) nd.1
        · exact ih a b nd.2 ha' hb' eab
  rw [key _ q _ e.D hq m eq]
end
/-! ### the rules of a def, its code object known -/
section
variable {P : Program} {w : World} {mg : Str → Option Value} {base : Heap} {x qual : Str} {params : Arguments} {body : List Stmt} {scope : Scope} {p : Str × Option Str} {fd : FuncData} {N ps : List Str} {k : Nat} {fb : En → M Fl}
theorem fnC_ok {G : Gx} (F : FunD G.K x qual params body scope [] [] (He.fAd G.K p) fd) (S : FnScope N ps scope)
    (hbody : ∀ (A : Around) (outer : List Env) (s : Shared) (H : Hp) (E : XK), Room k (A.deeper (envOfC qual scope s.heap.objs.size (He.fAd G.K p) (.ref (He.codeOf G.K p)))) → TakesD (cxOf (L2.CX P w) P w G.K mg base N qual scope (He.fAd G.K p) (.ref (He.codeOf G.K p)) A outer s H E) E →
      SSs (cxOf (L2.CX P w) P w G.K mg base N qual scope (He.fAd G.K p) (.ref (He.codeOf G.K p)) A outer s H E) G E body fb) : FnD P w mg base G (k + 1) (He.fAd G.K p) fd ps (bodyD N.length fb) := by
  obtain ⟨oc, od, dV, kV, doc, pm, an, cdv, ct, osl, rfl, lk, hcd, _, _⟩ := F.ex
  obtain ⟨c, hc⟩ := He.codeIn_ref hcd
  have ec : He.codeOf G.K p = c := He.codeOf_eq lk hc
  subst hc
  subst ec
  refine fn_of lk hcd S (fun vs H Q E ⟨ds, S, μ, h1, h2, _⟩ => h2.length.symm.trans h1) fun A outer s H vs Q E hr ⟨ds, S', μ, h1, r, L, p'⟩ => ?_
  refine ⟨_, hbody A outer s H E hr (takes_of rfl rfl rfl rfl), startD N.length ds, S', μ, ⟨ren_start r, L⟩, ?_⟩
  refine (Post.bind (k := fun (fl : Fl) => match fl with
    | .nx _ => M.pure .non
    | .rt d => M.pure d
    | _ => M.stk) p').mono fun fl S1 μ1 H1 s1 q => ?_
  cases fl with
  | nx σd => exact fun σ en => (Post.here (W := E) s1.lnk q) _ rfl
  | rt d => exact fun v rv => (Post.here (W := E) s1.lnk q) v rv
  | bk σd => exact q.elim
  | ct σd => exact q.elim
def spLaw (K : PySem.W.Frag) (T : List (Addr × Str)) (n : Nat) : Sp := fun vs H Q _ => ∃ (a : Addr) (ns : List Int), vs = [.ref a] ∧ SqL K H a (ns.map V.int) ∧ ns.length ≤ n ∧ (∀ z ∈ ns, Builtin.Int.intBits z ≤ 1048576) ∧ LamX.Tabs T H ∧ ∀ H', Q (.bl true) H'
theorem rvs_int {G : Gx} {μ : Nat → Addr} {n : Nat} {H : Hp} : ∀ ns : List Int, RVs G μ n H (ns.map D.int) (ns.map V.int)
  | [] => rfl
  | z :: ns => ⟨_, _, rfl, rfl, rvs_int ns⟩
theorem lawC_ok {K : PySem.W.Frag} {T : List (Addr × Str)} {n : Nat} {G : List (Str × Addr) → Gx} (hK : ∀ c, (G c).K = K) (hT : ∀ c, (G c).T = LamX.Tabs T) (F : FunD K x qual params body scope [] [] (He.fAd K p) fd) (S : FnScope N ["script"] scope)
    (hbody : ∀ (A : Around) (outer : List Env) (s : Shared) (H : Hp) (E : XK), Room k (A.deeper (envOfC qual scope s.heap.objs.size (He.fAd K p) (.ref (He.codeOf K p)))) → TakesD (cxOf (L2.CX P w) P w K mg base N qual scope (He.fAd K p) (.ref (He.codeOf K p)) A outer s H E) E →
      SSs (cxOf (L2.CX P w) P w K mg base N qual scope (He.fAd K p) (.ref (He.codeOf K p)) A outer s H E) (G (cellsFrom (s.heap.objs.size + 1) scope.names [])) E body fb)
    (hm : ∀ (ns : List Int) (d : D) (S : Sto), ns.length ≤ n → (∀ z ∈ ns, Builtin.Int.intBits z ≤ 1048576) → (d = .kl (ns.map .int) ∧ S = ⟨[], []⟩) ∨ (d = .ref 0 ∧ ∃ lk : List Nat, (∀ l ∈ lk, l = 0) ∧ S = ⟨[.lst (ns.map .int)], lk⟩) → ∃ S', bodyD N.length fb [d] S = .ok (.bl true) S') :
    FnOk P w K mg base (L2.CX P w) (k + 1) (He.fAd K p) fd ["script"] (spLaw K T n) := by
  obtain ⟨oc, od, dV, kV, doc, pm, an, cdv, ct, osl, rfl, lk, hcd, _, _⟩ := F.ex
  obtain ⟨c, hc⟩ := He.codeIn_ref hcd
  have ec : He.codeOf K p = c := He.codeOf_eq lk hc
  subst hc
  subst ec
  refine fn_of lk hcd S (fun vs H Q E ⟨a, ns, h1, _⟩ => by rw [h1]; rfl) fun A outer s H vs Q E hr ⟨a, ns, h1, h2, h3, h4, h5, h6⟩ => ?_
  subst h1
  obtain ⟨G', hG'⟩ : ∃ G', G' = G (cellsFrom (s.heap.objs.size + 1) scope.names []) := ⟨_, rfl⟩
  have hb := hbody A outer s H E hr (takes_of rfl rfl rfl rfl)
  rw [← hG'] at hb
  have hK' : G'.K = K := by rw [hG']; exact hK _
  have hT' : G'.T H := by rw [hG', hT]; exact h5
  have key : ∃ (d : D) (S0 : Sto) (μ : Nat → Addr), ((d = .kl (ns.map .int) ∧ S0 = ⟨[], []⟩) ∨ (d = .ref 0 ∧ ∃ lk : List Nat, (∀ l ∈ lk, l = 0) ∧ S0 = ⟨[.lst (ns.map .int)], lk⟩)) ∧ Lnk G' μ S0 H ∧ RVs G' μ S0.n H [d] [.ref a] := by
    rcases h2 with h2 | h2
    · have lnk : ∀ lk, (∀ l, l ∈ lk → l = 0) → Held ((⟨[.lst (ns.map .int)], lk⟩ : Sto).locked 0) H a (.lst (ns.map V.int)) → Lnk G' (fun _ => a) ⟨[.lst (ns.map .int)], lk⟩ H := fun lk hlk hh =>
        ⟨fun l hl l' hl' _ => by
          have e1 : l < 1 := hl
          have e2 : l' < 1 := hl'
          omega, fun l o e => by
          cases l with
          | zero =>
            cases e
            exact ⟨_, hh, rvs_int ns⟩
          | succ l => simp at e, hT', fun l hl => by rw [hlk l hl]; exact Nat.zero_lt_one⟩
      rcases h2 with h2 | ⟨o, h2⟩
      · exact ⟨.ref 0, ⟨[.lst (ns.map .int)], []⟩, fun _ => a, .inr ⟨rfl, _, (fun l hl => by cases hl), rfl⟩, lnk [] (fun l hl => by cases hl) h2, _, _, rfl, ⟨Nat.zero_lt_one, rfl⟩, rfl⟩
      · exact ⟨.ref 0, ⟨[.lst (ns.map .int)], [0]⟩, fun _ => a, .inr ⟨rfl, _, (fun l hl => List.mem_singleton.mp hl), rfl⟩, lnk [0] (fun l hl => List.mem_singleton.mp hl) ⟨o, h2⟩, _, _, rfl, ⟨Nat.zero_lt_one, rfl⟩, rfl⟩
    · refine ⟨.kl (ns.map .int), ⟨[], []⟩, fun _ => a, .inl ⟨rfl, rfl⟩, ⟨fun l hl => absurd (show l < 0 from hl) (Nat.not_lt_zero _), fun l o e => by simp at e, hT', fun l hl => by cases hl⟩, _, _, rfl, ⟨a, _, rfl, ?_, rvs_int ns⟩, rfl⟩
      rw [hK']
      exact h2
  obtain ⟨d, S0, μ, hd, L, r⟩ := key
  obtain ⟨S', e⟩ := hm ns d S0 h3 h4 hd
  refine ⟨_, hb, startD N.length [d], S0, μ, ⟨ren_start r, L⟩, ?_⟩
  have p' : Post G' μ S0 H E (fun d S1 μ1 H1 => ∀ v, RV G' μ1 S1.n H1 d v → Q v H1) (bodyD N.length fb [d] S0) := by
    rw [e]
    intro μ' H' st v rv
    have rv : v = .bl true := rv
    rw [rv]
    exact h6 H'
  refine (Post.bind (k := fun (fl : Fl) => match fl with
    | .nx _ => M.pure .non
    | .rt d => M.pure d
    | _ => M.stk) p').mono fun fl S1 μ1 H1 s1 q => ?_
  cases fl with
  | nx σd => exact fun σ en => (Post.here (W := E) s1.lnk q) _ rfl
  | rt d => exact fun v rv => (Post.here (W := E) s1.lnk q) v rv
  | bk σd => exact q.elim
  | ct σd => exact q.elim
end
theorem takesN {X : Cx} : TakesD X NoX := LamX.takes0
end Fd

set_option Elab.async false
set_option linter.all false
set_option maxRecDepth 100000
set_option maxHeartbeats 1000000
namespace Fd
open PySem PySem.Spec PyProof.Rows L2
section
variable {X : Cx} {G : Gx} {W : XK} {pins : List (Addr × Obj)} {σ : L2.St} {H : Hp} {s : Shared} {μ : Nat → Addr} {S : Sto} {a b e o : Expr} {fa fb fe : En → M D} {pos : Pos}
/-! ### sorted of what was collected -/
theorem sort_tail {A : Around} {E : Value → Shared → Prop} {Qf : PySem.Fin → Shared → Prop} {Q : VK} {ds : List D} {vs : List V} {us : List Value} {ps : List PyData} (own : Bool) (hK : G.K = X.K) (hu : A.units + 20 < cLine) (I : Inv X pins σ H s) (L : Lnk G μ S H) (r : RVs G μ S.n H ds vs) (rv : Vals vs us)
    (e2 : pysD S ds = some ps) (hc : (alikeC ps && sortableC ps) = true) (hz : us.length ≤ sizeLine) (p : Post G μ S H W (WQ G Q) (if own = true then newL (sortP (ds.zip ps)) S else .ok (.lst (sortP (ds.zip ps))) S))
    (hQ : ∀ l s', EP X pins σ Q (.ref l) s' → Qf (.done (.ret (.ref l))) s') :
    wpAny (model X.prog X.w) A (newList us >>= fun l => (holding [l] (call (.builtin "list.sort") [l] [])) >>= fun _ => ret l) Qf E s := by
  rw [Bool.and_eq_true] at hc
  obtain ⟨i1, i2, i3, i4, i5⟩ := data_rows hK I L r rv e2
  have hmap : ((ds.zip ps).zip vs).map (·.1) = ds.zip ps := zip_fst i2
  have hps : ((ds.zip ps).zip vs).map (fun b => b.1.2) = ps := by
    have : ((ds.zip ps).zip vs).map (fun b => b.1.2) = (((ds.zip ps).zip vs).map (·.1)).map (·.2) := by rw [List.map_map]; rfl
    rw [this, hmap, List.map_snd_zip (Nat.le_of_eq i1.symm)]
  have hlen : ((ds.zip ps).zip vs).length = vs.length := by rw [List.length_zip, i2, Nat.min_self]
  refine wpAny_bind (wpAny_newList ?_ hz)
  have ho : (s.heap.push (PyProof.Rows.seqObj "list" us.toArray 0)).get? s.heap.objs.size = some (PyProof.Rows.seqObj "list" us.toArray 0) := Heap.get?_push_size _ rfl
  show wpAny _ _ _ _ _ { s with heap := s.heap.push (PyProof.Rows.seqObj "list" us.toArray 0) }
  have er' : PySem.W.EachIs (fun v (b : (D × PyData) × V) => ∃ as, Reads (PySem.W.sortingHeap (s.heap.push (PyProof.Rows.seqObj "list" us.toArray 0)) s.heap.objs.size us) v b.1.2 as) us ((ds.zip ps).zip vs) :=
    i4.mono fun _ _ ⟨as, q⟩ => ⟨as, PyProof.Rows.Reads.keeps (fun b o e => PySem.W.sortingHeap_old (Nat.ne_of_lt (Heap.lt_size e)) (Heap.get?_push_of_some _ e)) q⟩
  have hal : PySem.W.AllAlike (((ds.zip ps).zip vs).map fun b => b.1.2) := by rw [hps]; exact alike_of hc.1
  have hso : PySem.W.Sortable (((ds.zip ps).zip vs).map fun b => b.1.2) := by rw [hps]; exact sortable_of hc.2
  refine wpAny_bind (wpAny_holding (wpAny_call_entry PyProof.Rows.slot_list_sort ⟨_, ho, rfl⟩ PyProof.Rows.entry_list_sort (PySem.W.list_sort_vals (κ := PySem.W.dataKind (PySem.W.sortingHeap (s.heap.push (PyProof.Rows.seqObj "list" us.toArray 0)) s.heap.objs.size us) (((ds.zip ps).zip vs).map fun b => b.1.2)) ho
    (PySem.W.SortsAt.data (s := { s with heap := PySem.W.sortingHeap (s.heap.push (PyProof.Rows.seqObj "list" us.toArray 0)) s.heap.objs.size us }) (PySem.W.each_map (R := fun v d => ∃ as, Reads (PySem.W.sortingHeap (s.heap.push (PyProof.Rows.seqObj "list" us.toArray 0)) s.heap.objs.size us) v d as) (fun b : (D × PyData) × V => b.1.2) er') hal hso ?_) hz ⟨.none, rfl, ?_⟩) (PyProof.Rows.args_list_sort _)))
  · intro d hd
    obtain ⟨b, hb, rfl⟩ := List.mem_map.mp hd
    have := (i5 b hb).2
    show A.units + 1 + _ < cLine
    omega
  · have eo := PySem.W.sortVals_data (enc := fun b : (D × PyData) × V => b.1.2) false i3 er' hal
    generalize hbs : ((ds.zip ps).zip vs).mergeSort (PySem.W.dataLe false fun b : (D × PyData) × V => b.1.2) = bs at eo
    have hmem : ∀ b ∈ bs, b ∈ (ds.zip ps).zip vs := fun b hb => by
      rw [← hbs] at hb
      exact List.mem_mergeSort.mp hb
    have hsort : bs.map (·.1.1) = sortP (ds.zip ps) := by
      have e5 : bs.map (·.1.1) = (bs.map (·.1)).map (·.1) := by rw [List.map_map]; rfl
      have e7 := List.map_mergeSort (r := PySem.W.dataLe false fun b : (D × PyData) × V => b.1.2) (s := fun a b : D × PyData => !PySem.W.dataLt b.2 a.2) (f := fun b : (D × PyData) × V => b.1) (l := (ds.zip ps).zip vs) (fun a _ b _ => rfl)
      rw [e5, ← hbs, e7, hmap]
      exact sortP_eq _
    have rr : RVs G μ S.n H (sortP (ds.zip ps)) (bs.map (·.2)) := by
      rw [← hsort]
      exact rows_rvs fun b hb => (i5 b (hmem b hb)).1
    have hvv := each_vals eo
    obtain ⟨c, hat⟩ := PyProof.Rows.sortedHeap_at (vs := us) (out := (PySem.W.sortVals (PySem.W.dataKind (PySem.W.sortingHeap (s.heap.push (PyProof.Rows.seqObj "list" us.toArray 0)) s.heap.objs.size us) (((ds.zip ps).zip vs).map fun b => b.1.2)) false us us).toArray) ho
    have hn : H s.heap.objs.size = none := I.hok.fresh (Nat.le_refl _)
    refine wpAny_pure (hQ s.heap.objs.size _ ⟨.ref s.heap.objs.size, upd H s.heap.objs.size (.lst (bs.map (·.2))), ?_, rfl, mk_lst L rr p _ hn⟩)
    refine I.laid (t' := s.toks) (fun b o e => ?_) (Nat.le_refl _) ⟨by rw [List.length_map, ← hbs, List.length_mergeSort, hlen]; rw [rv.length]; exact hz, _, c, hvv, hat⟩
    have hb : b < s.heap.objs.size := Heap.lt_size e
    rw [PyProof.Rows.sortedHeap_old (Nat.ne_of_lt hb) (by show b < (s.heap.push _).objs.size; rw [Heap.size_push]; exact Nat.lt_succ_of_lt hb)]
    exact Heap.get?_push_of_some _ e
/-- sorted(d) of a dict: its keys -/
def sortK (S : Sto) : D → Option (List D) := fun d => match dctD S d with
  | some (false, kvs) => some (kvs.map fun p => dkD p.1)
  | _ => none
def sortKC (own : Bool) : List D → M D := fun ds S => match ds with
  | [d] => (match sortK S d with
    | some xs => (match pysD S xs with
      | some ps => if (alikeC ps && sortableC ps) = true then (if own = true then newL (sortP (xs.zip ps)) S else .ok (.lst (sortP (xs.zip ps))) S) else .stk
      | none => .stk)
    | none => .stk)
  | _ => .stk
theorem cd_sortedK (own : Bool) (hK : G.K = X.K) (hc : X.calm = true) (hu : X.A.units + 64 < cLine) : CallD X G W (.builtin "sorted") (sortKC own) := by
  intro pins s σ H vs us Q I rv ⟨ds, S, μ, L, r, p⟩
  unfold sortKC at p
  match ds, r, p with
  | [d], r, p =>
    obtain ⟨v, rfl, rd⟩ := rvs1 r
    simp only at p
    unfold sortK at p
    cases e0 : dctD S d with
    | none => rw [e0] at p; exact p.elim
    | some tk =>
      obtain ⟨t, kvs⟩ := tk
      rw [e0] at p
      cases t with
      | true => exact p.elim
      | false =>
        simp only at p
        cases e2 : pysD S (kvs.map fun p => dkD p.1) with
        | none => rw [e2] at p; exact p.elim
        | some ps =>
          rw [e2] at p
          simp only at p
          by_cases hcc : (alikeC ps && sortableC ps) = true
          · rw [if_pos hcc] at p
            obtain ⟨a, ws, o, rfl, hd, ho, rk⟩ := dctD_ok L rd e0
            rw [Vals.ref1 rv]
            cases ho with
            | k l =>
              obtain ⟨z, lo, vv, rel, dd⟩ := dk_rd I.hok hd
              obtain ⟨ep, hat⟩ := dd.dictAt
              have ek : (l.map fun kv => kV kv.1) = vv.map fun p => kV p.1 := by
                have e := congrArg (List.map kV) rel.keys
                rw [List.map_map, List.map_map] at e
                exact e
              refine Calls.call_function_entry PyProof.Rows.kind_sorted PyProof.Rows.plain_sorted PyProof.Rows.entry_sorted (PyProof.Rows.args_sorted1 _) ?_
              unfold Builtin.«sorted»
              refine wpAny_bind (m := checkCount "sorted" 1 1 _) (wpAny_pure ?_)
              refine wpAny_bind (PySem.W.kdu_collect (A := X.A.in1) (PySem.W.kdl_dict (knd := mixKind X.prog X.w) (kvs := vv) (ep := ep) lo) (I.ok.hd hc) hat (by rw [← rel.length]; exact z) fun h' tk acc hk hacc => ?_)
              have hv : Vals (vv.map fun p => kV p.1) acc.toList := keys_at (by rw [Array.length_toList]; exact hacc.1) fun j v e => hacc.2 j v (by rw [← Array.getElem?_toList]; exact e)
              rw [← ek] at hv
              have I1 : Inv X pins σ H { s with heap := h', toks := tk } := I.kept hk
              exact sort_tail own hK (by show X.A.units + 1 + 20 < cLine; omega) I1 L (rvs_keys rk) hv e2 hcc (by rw [← hv.length, List.length_map]; exact z) p fun l s' hl => ⟨_, rfl, hl⟩
          · rw [if_neg hcc] at p; exact p.elim
  | [], _, p => exact p.elim
  | _ :: _ :: _, _, p => exact p.elim
/-- sorted, of a list or of a dict's keys -/
def sortedA (own : Bool) : List D → M D := altC (fun ds S => match ds with
  | [d] => (dctD S d).isSome
  | _ => false) (sortKC own) (sortedC own)
theorem cd_sortedA (own : Bool) (hK : G.K = X.K) (hc : X.calm = true) (hu : X.A.units + 64 < cLine) : CallD X G W (.builtin "sorted") (sortedA own) := callD_alt _ (cd_sortedK own hK hc hu) (cd_sorted own hK hu)
/-! ### operators of several kinds -/
theorem opD_alt {f : Value → Value → Sem Value} {o1 o2 : D → D → M D} (c : D → D → Sto → Bool) (h1 : OpD X G W f o1) (h2 : OpD X G W f o2) : OpD X G W f (alt2 c o1 o2) := fun pins s σ H x y v u Q I rx ry ⟨d, e, S, μ, L, r1, r2, p⟩ => by
  unfold alt2 at p
  by_cases hc : c d e S = true
  · simp only [hc, if_true] at p
    exact h1 pins s σ H x y v u Q I rx ry ⟨d, e, S, μ, L, r1, r2, p⟩
  · simp only [hc, if_false] at p
    exact h2 pins s σ H x y v u Q I rx ry ⟨d, e, S, μ, L, r1, r2, p⟩
def isI : D → Bool
  | .int _ => true
  | _ => false
def isT : D → Bool
  | .tup _ => true
  | _ => false
def addA : D → D → M D := alt2 (fun x _ _ => isI x) addI (alt2 (fun x _ _ => isStr x) addS (alt2 (fun x _ _ => isT x) addT addL))
theorem od_addA : OpD X G W (binaryOp .Add) addA := opD_alt _ od_addI (opD_alt _ od_addS (opD_alt _ od_addT od_addL))
def mulA : D → D → M D := alt2 (fun x _ _ => isI x) mulI repL
theorem od_mulA : OpD X G W (binaryOp .Mult) mulA := opD_alt _ od_mulI od_repL
def ltA : D → D → M D := alt2 (fun x _ _ => isI x) ltI ltD
theorem od_ltA (hK : G.K = X.K) (hu : X.A.units + 64 < cLine) : OpD X G W (compareOp .Lt) ltA := opD_alt _ od_ltI (od_ltD hK hu)
def eqA : D → D → M D := alt2 (fun x _ S => (dctD S x).isSome) eqDO eqD
theorem od_eqA (hK : G.K = X.K) (hu : X.A.units + 64 < cLine) : OpD X G W (compareOp .Eq) eqA := opD_alt _ (od_eqDO hK hu) (od_eqD hK hu)
def neA : D → D → M D := alt2 (fun x _ S => (dctD S x).isSome) neDO neD
theorem od_neA (hK : G.K = X.K) (hu : X.A.units + 64 < cLine) : OpD X G W (compareOp .NotEq) neA := opD_alt _ (od_neDO hK hu) (od_neD hK hu)
/-! ### -i -/
def negV (fe : En → M D) : En → M D := fun σ => fe σ >>= fun d => match d with
  | .int i => M.pure (D.int (-i))
  | _ => M.stk
theorem se_neg (he : SE X G W e fe) : SE X G W (.UnaryOp .USub e pos) (negV fe) := pe_imp (pe_un un_neg he) fun σ H Q ⟨σd, S, μ, a0, p⟩ => by
  refine rdE_bind (k := fun _ (d : D) => match d with
    | .int i => M.pure (D.int (-i))
    | _ => M.stk) a0 p fun d S1 μ1 H1 v s1 a1 rv p => ?_
  cases d with
  | int i => exact ⟨i, rv, (Post.here (W := W) a1.lnk p) _ rfl⟩
  | _ => exact p.elim
/-! ### range(a, b) -/
def rngC : List D → M (List D) := fun ds => match ds with
  | [x, y] => (match x, y with
    | .int i, .int j => if -(2 ^ 62) ≤ i ∧ i < 2 ^ 62 ∧ -(2 ^ 62) ≤ j ∧ j < 2 ^ 62 then M.pure (rangeI i (j - i).toNat) else M.stk
    | _, _ => M.stk)
  | _ => M.stk
def rngA (fr : En → M (List D)) : En → M (List D) := fun σ => fr σ >>= rngC
theorem rngC_ok {Q : List D → Sto → (Nat → Addr) → Hp → Prop} {ds : List D} {vs : List V} (r : RVs G μ S.n H ds vs) (h : Post G μ S H W Q (rngC ds S)) : ∃ i j : Int, vs = [.int i, .int j] ∧ (-(2 ^ 62) ≤ i ∧ i < 2 ^ 62 ∧ -(2 ^ 62) ≤ j ∧ j < 2 ^ 62) ∧ Post G μ S H W Q (.ok (rangeI i (j - i).toNat) S) := by
  unfold rngC at h
  match ds, r, h with
  | [x, y], r, h =>
    obtain ⟨v, w, rfl, rx, ry⟩ := rvs2 r
    cases x with
    | int i => cases y with
      | int j =>
        have rx : v = .int i := rx
        have ry : w = .int j := ry
        subst rx ry
        simp only at h
        by_cases hc : -(2 ^ 62) ≤ i ∧ i < 2 ^ 62 ∧ -(2 ^ 62) ≤ j ∧ j < 2 ^ 62
        · rw [if_pos hc] at h
          exact ⟨i, j, rfl, hc, h⟩
        · rw [if_neg hc] at h; exact h.elim
      | _ => exact h.elim
    | _ => cases y <;> exact h.elim
  | [], _, h => exact h.elim
  | [_], _, h => exact h.elim
  | _ :: _ :: _ :: _, _, h => exact h.elim
theorem si_range2 {tg : Expr} {p : Pos} {fr : En → M (List D)} (hm : X.mg "range" = none) (ha : SA X G W [a, b] fr) (hg : Gl X "range" := by rfl) (hs : starEach [a, b] X.env = [(false, eval a X.env), (false, eval b X.env)] := by rfl)
    (hs2 : starEach [b] X.env = [(false, eval b X.env)] := by rfl) : SI X G W tg (.Call (.Name "range" p) [a, b] [] pos) (rngA fr) := by
  refine pi_imp (pi_range2 hg hm ha hs hs2) fun σ H R ⟨σd, S, μ, a0, h⟩ => ?_
  refine rdA_bind (k := fun _ ds => rngC ds) a0 h fun ds S1 μ1 H1 vs s1 a1 r h => ?_
  obtain ⟨i, j, e, hc, h⟩ := rngC_ok r h
  exact ⟨i, j, e, hc, (Post.here (W := W) a1.lnk h) _ (itok_range i _)⟩
/-! ### which object is locked -/
def locD (S : Sto) : D → Option Nat := fun d => match d with
  | .ref l => (match S.objs[l]? with
    | some (.lst _) => some l
    | some (.dct _ _) => some l
    | _ => none)
  | _ => none
def locV (i : Nat) : En → Sto → Option Nat := fun σ S => match σ[i]? with
  | some (some d) => locD S d
  | _ => none
def locF (i c : Nat) (f : Str) : En → Sto → Option Nat := fun σ S => match σ[i]? with
  | some (some d) => (match getF c S d with
    | some (_, fs) => (match fs.lookup f with
      | some x => locD S x
      | none => none)
    | none => none)
  | _ => none
/-- a def that is never reached -/
theorem fnD_stk {P : Program} {w : World} {mg : Str → Option Value} {base : Heap} {k : Nat} {f : Addr} {fd : FuncData} {ps : List Str} : FnD P w mg base G k f fd ps (fun _ => M.stk) :=
  ⟨fun vs H Q E ⟨ds, S, μ, h1, h2, _⟩ => h2.length.symm.trans h1, fun A outer s H args us vs Q E _ _ _ _ ⟨ds, S, μ, _, _, _, p⟩ => p.elim⟩
end
end Fd

set_option Elab.async false
set_option linter.all false
set_option maxRecDepth 100000
set_option maxHeartbeats 1000000
namespace Fd
open PySem PySem.Spec PyProof.Rows L2
/-! ### {k: v, ..}: an owned dict -/
abbrev FPs : Type := List ((En → M D) × (En → M D))
def pairsM : FPs → En → M (List (D × D))
  | [], _ => M.pure []
  | p :: r, σ => p.1 σ >>= fun k => p.2 σ >>= fun v => pairsM r σ >>= fun ps => M.pure ((k, v) :: ps)
def pairK : D × D → Option (DK × D) := fun p => (atomK p.1).map fun k => (.k k, p.2)
def dispFin (l : Nat) (ps : List (D × D)) : M D := fun S => match ps.mapM pairK with
  | some prs => if prs.length ≤ 15 ∧ S.locked l = false then (match S.objs[l]? with
    | some (.dct false []) => .ok (.ref l) (S.put l (.dct false (mergeD [] prs)))
    | _ => .stk) else .stk
  | none => .stk
def dispE (fps : FPs) : En → M D := fun σ S => (pairsM fps σ >>= fun ps => dispFin S.n ps) (S.push (.dct false []))
section
variable {X : Cx} {G : Gx} {W : XK} {μ : Nat → Addr} {S : Sto} {H : Hp} {σ : L2.St} {σd : En}
def RPs (G : Gx) (μ : Nat → Addr) (n : Nat) (H : Hp) : List (D × D) → List (V × V) → Prop := Paired fun p q => RV G μ n H p.1 q.1 ∧ RV G μ n H p.2 q.2
abbrev trD (G : Gx) (W : XK) (fps : FPs) : List (TE × TE) := fps.map fun p => (rdE G W p.1, rdE G W p.2)
theorem RPs.mono {μ' : Nat → Addr} {n n' : Nat} {H' : Hp} (m : ∀ d v, RV G μ n H d v → RV G μ' n' H' d v) {ps : List (D × D)} {vs : List (V × V)} (r : RPs G μ n H ps vs) : RPs G μ' n' H' ps vs := Paired.mapP r fun p q z => ⟨m _ _ z.1, m _ _ z.2⟩
theorem pairs_rd : ∀ {fps : FPs} {S : Sto} {μ : Nat → Addr} {H : Hp} {R : List (V × V) → Hp → Prop}, At G σd S μ σ H → Post G μ S H W (fun ps S' μ' H' => ∀ vs, RPs G μ' S'.n H' ps vs → R vs H') (pairsM fps σd S) → tPairs (trD G W fps) σ H R
  | [], S, μ, H, R, a, p => (Post.here (W := W) a.lnk p) [] .nil
  | f :: fps, S, μ, H, R, a, p => by
    refine rdE_bind (k := fun σ k => f.2 σ >>= fun v => pairsM fps σ >>= fun ps => M.pure ((k, v) :: ps)) a p fun k S1 μ1 H1 kv s1 a1 rk p => ?_
    refine rdE_bind (k := fun σ v => pairsM fps σ >>= fun ps => M.pure ((k, v) :: ps)) a1 p fun v S2 μ2 H2 vv s2 a2 rv p => ?_
    refine pairs_rd a2 ((Post.bind (k := fun ps => M.pure ((k, v) :: ps)) p).mono fun ps S3 μ3 H3 s3 p vs rs => ?_)
    exact (Post.here (W := W) s3.lnk p) _ (.cons ⟨(s2.trans s3).rv a1.lnk rk, s3.rv a2.lnk rv⟩ rs)
theorem prs_ok {n : Nat} : ∀ {ps : List (D × D)} {vs : List (V × V)} {prs : List (DK × D)}, RPs G μ n H ps vs → ps.mapM pairK = some prs → ∃ l : List (Key × V), vs = l.map (fun q => (kV q.1, q.2)) ∧ RVk G μ n H prs (l.map fun q => (DK.k q.1, q.2))
  | [], _, prs, .nil, e => by
    rw [List.mapM_nil] at e
    cases e
    exact ⟨[], rfl, rfl⟩
  | p :: ps, _, prs, .cons (b := q) h t, e => by
    rw [List.mapM_cons] at e
    cases e1 : pairK p with
    | none => rw [e1] at e; cases e
    | some x =>
      cases e2 : ps.mapM pairK with
      | none => rw [e1, e2] at e; cases e
      | some xs =>
        rw [e1, e2] at e
        cases e
        obtain ⟨l, h1, h2⟩ := prs_ok t e2
        unfold pairK at e1
        cases e3 : atomK p.1 with
        | none => rw [e3] at e1; cases e1
        | some k =>
          rw [e3] at e1
          cases e1
          have hq := atomK_ok h.1 e3
          refine ⟨(k, q.2) :: l, ?_, ⟨_, _, rfl, h.2, h2⟩⟩
          rw [h1, List.map_cons, ← hq]
theorem se_disp {fps : FPs} {keys : List (Option Expr)} {values : List Expr} {pos : Pos} (h : PPs X pos keys values (trD G W fps)) (hall : keys.all (·.isSome) = true := by rfl) (hl : keys.length = values.length := by rfl) (h0 : keys ≠ [] := by intro z; cases z)
    (h15 : keys.length ≤ 15 := by decide) : SE X G W (.Dict keys values pos) (dispE fps) := pe_imp (pe_disp h hall hl h0 h15) fun σ H Q ⟨σd, S, μ, a0, p⟩ => by
  intro q hq
  have st := own_dct (t := false) (kvs := []) (vs := []) a0.lnk hq (.k []) rfl
  have p := p.later st
  refine pairs_rd (a0.step st) ((Post.bind (k := fun ps => dispFin S.n ps) p).mono fun ps S1 μ1 H1 s1 p vs rs => ?_)
  have hlt : S.n < (S.push (.dct false [])).n := by rw [Sto.push_n]; exact Nat.lt_succ_self _
  have eq1 : μ1 S.n = q := (s1.grow.agr.2 S.n hlt).trans putMu_same
  unfold dispFin at p
  cases e1 : ps.mapM pairK with
  | none => rw [e1] at p; exact p.elim
  | some prs =>
    rw [e1] at p
    simp only at p
    by_cases hc : prs.length ≤ 15 ∧ S1.locked S.n = false
    · rw [if_pos hc] at p
      cases e2 : S1.objs[S.n]? with
      | none => rw [e2] at p; exact p.elim
      | some ob =>
        rw [e2] at p
        match ob, e2, p with
        | .dct false [], e2, p =>
          simp only at p
          obtain ⟨ws, o, h1, h2, h3⟩ := s1.lnk.ob _ _ e2
          rw [hc.2] at h1
          have h1 : H1 (μ1 S.n) = some o := h1
          have h3 : ws = [] := h3
          subst h3
          have ho : o = .dK [] := by
            generalize hw : ([] : List (DK × V)) = w at h2
            cases h2 with
            | k l =>
              cases l with
              | nil => rfl
              | cons _ _ => cases hw
          subst ho
          have hl1 : S.n < S1.n := Nat.lt_of_lt_of_le hlt s1.grow.agr.1
          obtain ⟨l, ev, rk⟩ := prs_ok rs e1
          have g := grow_put (u := .dK (mergeK [] l)) s1.lnk hl1 h1 (fun _ _ e => by cases e) (fun _ e => by cases e)
          have sp : Stp G μ1 S1 H1 μ1 (S1.put S.n (.dct false (mergeD [] prs))) (upd H1 (μ1 S.n) (.dK (mergeK [] l))) := Stp.put s1.lnk hl1 hc.2 h1 (fun _ _ e => by cases e) (fun _ e => by cases e) (fun _ e => by cases e) (fun _ e => by cases e)
            ⟨_, _, upd_same, .k _, RVk.mono g s1.lnk.tf _ _ (rvk_merge (l := []) (kvs := []) rk rfl)⟩
          rw [eq1] at sp h1
          refine ⟨h1, l, ev, ?_, Post.step sp p _ ⟨by rw [Sto.put_n]; exact hl1, by rw [eq1]⟩⟩
          have q1 := rk.length
          rw [List.length_map] at q1
          rw [← q1]
          exact hc.1
        | .dct true _, _, p => exact p.elim
        | .dct false (_ :: _), _, p => exact p.elim
        | .lst _, _, p => exact p.elim
        | .ins _ _, _, p => exact p.elim
    · rw [if_neg hc] at p; exact p.elim
/-! ### a lock where the walked thing is owned -/
def lockQ {α : Type} (g : En → Sto → Option Nat) (f : En → M α) : En → M α := fun σ S => match g σ S with
  | none => f σ S
  | some l => if S.locked l = true then f σ S else lockM g f σ S
theorem lockQ_cases {α : Type} {g : En → Sto → Option Nat} {f : En → M α} {Q : α → Sto → (Nat → Addr) → Hp → Prop} (h : Post G μ S H W Q (lockQ g f σd S)) : Post G μ S H W Q (f σd S) ∨ Post G μ S H W Q (lockM g f σd S) := by
  unfold lockQ at h
  cases e : g σd S with
  | none => rw [e] at h; exact .inl h
  | some l =>
    rw [e] at h
    simp only at h
    by_cases hl : S.locked l = true
    · simp only [hl, if_true] at h; exact .inl h
    · simp only [hl, if_false] at h; exact .inr h
theorem ss_lockQ (g : En → Sto → Option Nat) {st : Stmt} {f : En → M Fl} (h : SS X G W st f) : SS X G W st (lockQ g f) := by
  refine ⟨fun pins s σ H Dn I ⟨σd, S, μ, a, p⟩ => ?_⟩
  rcases lockQ_cases p with p | p
  · exact h.run pins s σ H Dn I ⟨σd, S, μ, a, p⟩
  · exact (ss_lock g h).run pins s σ H Dn I ⟨σd, S, μ, a, p⟩
theorem se_lockQ (g : En → Sto → Option Nat) {e : Expr} {fe : En → M D} (h : SE X G W e fe) : SE X G W e (lockQ g fe) := by
  refine ⟨fun pins s σ H Q I ⟨σd, S, μ, a, p⟩ => ?_⟩
  rcases lockQ_cases p with p | p
  · exact h.run pins s σ H Q I ⟨σd, S, μ, a, p⟩
  · exact (se_lock g h).run pins s σ H Q I ⟨σd, S, μ, a, p⟩
end
end Fd

set_option Elab.async false
set_option linter.all false
set_option maxRecDepth 100000
set_option maxHeartbeats 1000000
namespace Fd
open PySem PySem.Spec PyProof.Rows L2 LamX
/-! ### told, packed -/
/-- the def x stands at g: try: return a() / except er: return ret; er's class stands at CS -/
structure ToldF (K : PySem.W.Frag) (mg : Str → Option Value) (x ret : Str) (g CS : Addr) : Prop where
  ex : ∃ (a er : Str) (j : Nat) (pg : Arguments) (sg : Scope) (dV kV doc pm cdv ct oc : Value) (an od : Option Addr) (osl : Array (Option Value)) (Ng : List Str) (p1 p2 p3 p4 p5 p6 p7 p8 : Pos),
    K.lookup g = some ⟨oc, od, .func (PySem.W.fnOf x x pg [.Try [.Return (some (.Call (.Name a p1) [] [] p2)) p3] [.ExceptHandler (some (.Name er p4)) none [.Return (some (.Constant (.str ret) j p5)) p6] p7] [] [] p8] sg dV kV doc pm an cdv ct), osl⟩ ∧ PySem.W.codeIn K cdv x = true ∧
    L2.Binds K (PySem.W.fnOf x x pg [.Try [.Return (some (.Call (.Name a p1) [] [] p2)) p3] [.ExceptHandler (some (.Name er p4)) none [.Return (some (.Constant (.str ret) j p5)) p6] p7] [] [] p8] sg dV kV doc pm an cdv ct) [a] [] ∧ FnScope Ng [a] sg ∧ Ng[0]? = some a ∧ Vis sg a ∧
    sg.names.lookup er = some .globalImplicit ∧ mg er = some (.ref CS) ∧ (er == ("__debug__" : Str)) = false ∧ (a == ("__debug__" : Str)) = false ∧ (a == ("__classdict__" : Str)) = false
  at_ : mg x = some (.ref g)
  kp : PySem.W.keepIn K (.ref g) = true
theorem start0 {Ng : List Str} (f : Addr) : (L2.start Ng [V.ref f])[0]? = some (some (V.ref f)) := by
  unfold L2.start
  rfl
section
variable {X : Cx} {G : Gx} {W : XK} {p pos lpos : Pos} {params : Arguments} {body : Expr} {scope : Scope} {fb : En → M D}
theorem se_toldE {T : List (Addr × Str)} {x ret : Str} {g c P CS : Addr} {okc : Nat → Bool} (k : Nat) (F : ToldF X.K X.mg x ret g CS) (hT : G.T = Tabs T) (TB : TabB X.base X.mg c P) (hcode : X.env.code = .ref c) (hmT : (P, X.env.qual ++ "<lambda>") ∈ T) (hu : ∀ p ∈ T, p.1 = P → p.2 = X.env.qual ++ "<lambda>")
    (hr : Room (k + 2) X.A) (L : LamS X.env.scope scope) (hexc : ∀ i, okc i = true → PySem.W.exmOne X.K (.ref (G.cA i)) (.ref CS) = some true) (mp : MPc X G k scope body fb) (hg : Gl X x := by rfl) (hdef : defaultsOf params X.env = ([], []) := by rfl)
    (hbind : ∀ (q : Str) (cl : List (Str × Addr)) (pm cv ctv : Value), bindArgs (PySem.W.kla_fn "<lambda>" q params body scope cl pm cv ctv) ⟨[], []⟩ = pure [] := by intros; rfl) (hdb : (x == ("__debug__" : Str)) = false := by decide) :
    SE X G W (.Call (.Name x p) [.Lambda params body scope lpos] [] pos) (toldE okc ret fb) := by
  obtain ⟨a, er, j, pg, sg, dV, kV, doc, pm, cdv, ct, oc, an, od, osl, Ng, p1, p2, p3, p4, p5, p6, p7, p8, lk, hcg, hb, Sg, hN, hv, hge, hme, hde, hd, hcd⟩ := F.ex
  exact se_told (q0 := x) hT F.at_ F.kp lk hcg hb Sg hN hv hge hme hde start0 TB hcode hmT hu hr L hexc mp hg hdef hbind hdb hd hcd
theorem mpcs_of {k : Nat} : ∀ {ls : List LamT} {fbs : List (En → M D)}, Paired (fun (l : LamT) fb => MPc X G k l.2.2 l.2.1 fb ∧ LamS X.env.scope l.2.2 ∧ ∀ (q : Str) (cl : List (Str × Addr)) (pm cv ctv : Value), bindArgs (PySem.W.kla_fn "<lambda>" q l.1 l.2.1 l.2.2 cl pm cv ctv) ⟨[], []⟩ = pure []) ls fbs → MPcs X G k ls fbs
  | [], [], .nil => fun i l fb h => by simp at h
  | l0 :: ls, f0 :: fbs, .cons h t => fun i l fb h1 h2 => by
    cases i with
    | zero =>
      cases h1
      cases h2
      exact h
    | succ i => exact mpcs_of t i l fb h1 h2
/-- told(f) != '..', f one of the frame's lambdas, as a comprehension's condition -/
theorem st_toldf {pins : List (Addr × Obj)} {σ0 : L2.St} {s3 : Shared} {H2 : Hp} {C : Addr} {cl : List (Str × Addr)} {fp : List Addr} {cscope : Scope} {vs : List Nat} {x ret z zz : Str} {g CS : Addr} {jz jj : Nat} {okc : Nat → Bool} {pf p9 : Pos} {op : CmpOp} {o : D → D → M D}
    {ls : List LamT} {fbs : List (En → M D)} (k : Nat) (F : ToldF X.K X.mg x ret g CS) (hop : OpD (X.blk s3 H2 cscope (compEnvC cscope cl C X.env) fp) G NoX (compareOp op) o) (I3 : Inv X pins σ0 H2 s3) (hfp : ∀ b ∈ fp, FpOk X pins H2 b) (hl : G.lamP = lamPX X.env.qual X.env.cells ls)
    (hr : Room (k + 2) X.A) (hexc : ∀ i, okc i = true → PySem.W.exmOne X.K (.ref (G.cA i)) (.ref CS) = some true) (mp : MPcs X G k ls fbs) (hN : X.N[jz]? = some z := by rfl) (hv : Vis (compEnvC cscope cl C X.env).scope z := by first | exact Or.inl rfl | exact Or.inr (Or.inl rfl) | exact Or.inr (Or.inr rfl))
    (hgx : (compEnvC cscope cl C X.env).kindOf x = some .globalImplicit := by rfl) (hzd : (z == ("__debug__" : Str)) = false := by decide) (hzc : (z == ("__classdict__" : Str)) = false := by decide) (hdb : (x == ("__debug__" : Str)) = false := by decide)
    (hm : behindInMarks op (.Constant (.str zz) jj p9) = false := by first | exact nobehind _ (by decide) (by decide) | rfl) :
    PT (X.blk s3 H2 cscope (compEnvC cscope cl C X.env) fp) (.Compare (.Call (.Name x p) [.Name z pf] [] lpos) [op] [.Constant (.str zz) jj p9] pos) (rdTw G NoX σ0 vs (tst1 (bin2 o (toldV okc ret vs jz fbs) (cst (.str zz))))) := by
  obtain ⟨a, er, j, pg, sg, dV, kV, doc, pm, cdv, ct, oc, an, od, osl, Ng, p1, p2, p3, p4, p5, p6, p7, p8, lk, hcg, hb, Sg, hNg, hva, hge, hme, hde, hd, hcd⟩ := F.ex
  have h1 := se_toldf (pf := pf) (pos := lpos) (p := p) (vs := vs) I3 hfp hl F.at_ F.kp lk hcg hb Sg hNg hva hge hme hde start0 hr hexc mp hN hv hgx hzd hzc hdb hd hcd
  refine pt_imp (pt_cmpR hop h1 (se_str (G := G) (W := NoX)) hm) fun σ H Q ⟨hw, σd, S, μ, a0, h⟩ => ⟨hw, ?_⟩
  have h := Post.bind (k := asB) h
  refine rd_bin2 (op := o) (fa := toldV okc ret vs jz fbs) (fb := cst (.str zz)) (r := rd2 G NoX o) (fun x y H Q q => q) σ H _ ⟨σd, S, μ, a0, h.mono fun d S1 μ1 H1 s1 p v rv => ?_⟩
  exact rd_asB s1.lnk rv p
end
/-! ### scopes, at once -/
def gscB (N : List Str) (sc scope : Scope) (own : List (Str × Nat)) : Bool := blkC N sc scope own && ((scope.names.all fun y => match y.2 with | .cell => false | _ => true) && (!scope.isCoroutine && (match scope.names.lookup (".0" : Str) with | some .local => true | _ => false)))
theorem GSc.by {X : Cx} {scope : Scope} {own : List (Str × Nat)} (h : gscB X.N X.env.scope scope own = true) : GSc X scope own := by
  unfold gscB at h
  simp only [Bool.and_eq_true, List.all_eq_true] at h
  obtain ⟨h1, h2, h3, h4⟩ := h
  refine ⟨blkOk_by h1, fun y hy e => ?_, by simpa using h3, ?_⟩
  · have q := h2 y hy
    rw [e] at q
    cases q
  · cases e : scope.names.lookup (".0" : Str) with
    | none => rw [e] at h4; cases h4
    | some k =>
      rw [e] at h4
      cases k with
      | «local» => rfl
      | _ => cases h4
/-- the lambdas of a written list -/
def lamsOf : Stmt → List LamT
  | .Assign _ (.List es _) _ => es.filterMap fun e => match e with
    | .Lambda ps b sc _ => some (ps, b, sc)
    | _ => none
  | _ => []
end Fd

set_option Elab.async false
set_option linter.all false
set_option maxRecDepth 100000
set_option maxHeartbeats 1000000
namespace Fd
open PySem PySem.Spec PyProof.Rows L2 LamX
/-! ### in, not in as conditions -/
section
variable {X : Cx} {G : Gx} {W : XK} {a b : Expr} {fa fb : En → M D} {pos : Pos} {op : CmpOp}
theorem pc_imp {t t' : TE} (h : PC X op a b t) (m : ∀ σ H Q, t' σ H Q → t σ H Q) : PC X op a b t' := ⟨fun pins s σ H Q I q => h.run pins s σ H Q I (m σ H Q q)⟩
theorem pc_or {t t' : TE} (h : PC X op a b t) (h' : PC X op a b t') : PC X op a b (fun σ H Q => t σ H Q ∨ t' σ H Q) := ⟨fun pins s σ H Q I q => q.elim (h.run pins s σ H Q I) (h'.run pins s σ H Q I)⟩
theorem alt_rd {o1 o2 : D → D → M D} (c : D → D → Sto → Bool) {σ : L2.St} {H : Hp} {Q : VK} (h : rdE G W (bin2 (alt2 c o1 o2) fa fb) σ H Q) : rdE G W (bin2 o1 fa fb) σ H Q ∨ rdE G W (bin2 o2 fa fb) σ H Q := by
  obtain ⟨σd, S, μ, a, h⟩ := h
  have key : ∀ o : D → D → M D, bin2 o fa fb σd S = (match fa σd S with
      | .ok x S1 => (match fb σd S1 with
        | .ok y S2 => o x y S2
        | .exc c S' => .exc c S'
        | .stk => .stk)
      | .exc c S' => .exc c S'
      | .stk => .stk) := fun o => by
    show M.bind (fa σd) (fun x => M.bind (fb σd) fun y => o x y) S = _
    unfold M.bind
    cases fa σd S with
    | ok x S1 => dsimp only; cases fb σd S1 <;> rfl
    | exc _ _ => rfl
    | stk => rfl
  rw [key] at h
  cases e1 : fa σd S with
  | exc c S' =>
    rw [e1] at h
    exact .inl ⟨σd, S, μ, a, by rw [key, e1]; exact h⟩
  | stk => rw [e1] at h; exact h.elim
  | ok x S1 =>
    simp only [e1] at h
    cases e2 : fb σd S1 with
    | exc c S' =>
      rw [e2] at h
      exact .inl ⟨σd, S, μ, a, by rw [key, e1]; simp only [e2]; exact h⟩
    | stk => rw [e2] at h; exact h.elim
    | ok y S2 =>
      simp only [e2] at h
      unfold alt2 at h
      by_cases hc : c x y S2 = true
      · rw [if_pos hc] at h
        exact .inl ⟨σd, S, μ, a, by rw [key, e1]; simp only [e2]; exact h⟩
      · rw [if_neg hc] at h
        exact .inr ⟨σd, S, μ, a, by rw [key, e1]; simp only [e2]; exact h⟩
abbrev SC (X : Cx) (G : Gx) (W : XK) (op : CmpOp) (a b : Expr) (f : En → M D) : Prop := PC X op a b (rdE G W f)
theorem sc_alt {o1 o2 : D → D → M D} (c : D → D → Sto → Bool) (h1 : SC X G W op a b (bin2 o1 fa fb)) (h2 : SC X G W op a b (bin2 o2 fa fb)) : SC X G W op a b (bin2 (alt2 c o1 o2) fa fb) := pc_imp (pc_or h1 h2) fun σ H Q h => alt_rd c h
theorem sc_op {o : D → D → M D} (ho : OpD X G W (compareOp op) o) (ha : SE X G W a fa) (hb : SE X G W b fb) : SC X G W op a b (bin2 o fa fb) :=
  ⟨fun pins s σ H Q I q => thn (ha.run pins s σ H _ I (rd_bin2 (fun _ _ _ _ h => h) σ H Q q)) fun v s1 ⟨x, H1, I1, r1, q1⟩ => thn (hb.run pins s1 σ H1 _ I1 q1) fun u s2 ⟨y, H2, I2, r2, q2⟩ => ho pins s2 σ H2 x y v u Q I2 r1 r2 q2⟩
theorem din_rd {d e : D} {x y : V} {S : Sto} {μ : Nat → Addr} {H : Hp} {Q : VK} {k : Bool} (L : Lnk G μ S H) (r2 : RV G μ S.n H e y) (r1 : RV G μ S.n H d x) (p : Post G μ S H W (fun d S' μ' H' => ∀ v, RV G μ' S'.n H' d v → Q v H') (dinO k e d S)) : ∃ a o, x = .ref a ∧ DGet H a y o ∧ Q (.bl (k == o.isSome)) H := by
  unfold dinO at p
  cases e1 : dctD S d with
  | none => rw [e1] at p; exact p.elim
  | some q =>
    obtain ⟨t, kvs⟩ := q
    rw [e1] at p
    cases e2 : keyD t e with
    | none => simp only [e2] at p; exact p.elim
    | some k =>
      obtain ⟨aa, o, h1, h2, h3⟩ := dget_ok L r1 e1 (keyD_ok r2 e2)
      simp only [e2] at p
      exact ⟨aa, o, h1, h2, (Post.here L p) _ (by show _ = _; rw [h3.some_eq])⟩
theorem sc_din (hu : X.A.units + 1 < cLine) (ha : SE X G W a fa) (hb : SE X G W b fb) : SC X G W .In a b (bin2 (dinO true) fa fb) :=
  pc_imp (pc_din hu ha hb) (rd_bin2 (r := fun y x H2 Q => ∃ a o, x = .ref a ∧ DGet H2 a y o ∧ Q (.bl o.isSome) H2) fun y x H Q ⟨e, d, S, μ, L, r2, r1, p⟩ => by
    obtain ⟨aa, o, h1, h2, h3⟩ := din_rd L r2 r1 p
    exact ⟨aa, o, h1, h2, by simpa using h3⟩)
theorem sc_dnotin (hu : X.A.units + 1 < cLine) (ha : SE X G W a fa) (hb : SE X G W b fb) : SC X G W .NotIn a b (bin2 (dinO false) fa fb) :=
  pc_imp (pc_dnotin hu ha hb) (rd_bin2 (r := fun y x H2 Q => ∃ a o, x = .ref a ∧ DGet H2 a y o ∧ Q (.bl (!o.isSome)) H2) fun y x H Q ⟨e, d, S, μ, L, r2, r1, p⟩ => by
    obtain ⟨aa, o, h1, h2, h3⟩ := din_rd L r2 r1 p
    exact ⟨aa, o, h1, h2, by simpa using h3⟩)
theorem st_sc {f : En → M D} (h : SC X G W op a b f) (hm : behindInMarks op b = false) : STe X G W (.Compare a [op] [b] pos) (tst1 f) := by
  refine pt_imp (pt_cmp h hm) fun σ H Q ⟨σd, S, μ, at_, h⟩ => ?_
  exact rdE_bind (k := fun _ => asB) at_ h fun d S1 μ1 H1 v s a1 rv h1 => rd_asB a1.lnk rv h1
theorem st_in (hK : G.K = X.K) (hu : X.A.units + 64 < cLine) (ha : SE X G W a fa) (hb : SE X G W b fb) (hm : behindInMarks .In b = false := by rfl) : STe X G W (.Compare a [.In] [b] pos) (tst1 (bin2 inO fa fb)) :=
  st_sc (sc_alt _ (sc_din (by omega) ha hb) (sc_alt _ (sc_op od_signIn ha hb) (sc_op (od_inD hK hu) ha hb))) hm
theorem st_notin (hK : G.K = X.K) (hu : X.A.units + 64 < cLine) (ha : SE X G W a fa) (hb : SE X G W b fb) (hm : behindInMarks .NotIn b = false := by rfl) : STe X G W (.Compare a [.NotIn] [b] pos) (tst1 (bin2 notinO fa fb)) :=
  st_sc (sc_alt _ (sc_dnotin (by omega) ha hb) (sc_alt _ (sc_op od_signNotin ha hb) (sc_op (od_notinD hK hu) ha hb))) hm
end
end Fd

set_option Elab.async false
set_option linter.all false
set_option maxRecDepth 100000
set_option maxHeartbeats 1000000
namespace Fd
open PySem PySem.Spec PyProof.Rows L2
/-! ### the end -/
section
variable {l : PySem.W.OpenLaw} {fa : List He.Fa} {fn : List He.DefD} {ts : List He.Tab} {tq : List TabQ} {w : World} {h : Heap} {K : PySem.W.Frag} {mg : Str → Option Value} {d : He.DefD} {k n i : Nat} {f : Addr}
def exQ (tq : List TabQ) (K : PySem.W.Frag) : Bool := decide (((TQ tq K).map (·.1)).Nodup)
theorem lawAtS_of (KX : K.In h) (Gh : h.Ns mainGlobals mg) (c : He.SaysX fa fn ts (tq.map (·.1)) (exQ tq) w h K) (hf : mg "law" = some (.ref f)) (hg : fa[i]? = some (.glo "law")) {j : Nat} (hd : fn[j]? = some d) (hat : d.at_ = (("law" : Str), (none : Option Str))) (hdf : d.dfl = [])
    (hbn : ∀ (kV doc pm : Value) (an : Option Addr) (cdv ct : Value) (us : List Value), us.length = ["script"].length → bindArgs (PySem.W.fnOf d.name d.qual d.params d.body d.scope .none kV doc pm an cdv ct) ⟨us, []⟩ = pure ((["script"] : List Str).zip us))
    (hF : ∀ base : Heap, Ev fa fn ts tq (exQ tq) w h K mg base → FnOk l.prog w K mg base (L2.CX l.prog w) k (He.fAd K d.at_) (fdOf K d.at_) ["script"] (spLaw K (TQ tq K) n)) : LamX.LawAtS l w K (L2.CX l.prog w) k n "script" mg f h := by
  have ev : ∀ base : Heap, (∀ p ∈ (tq.map (·.1)).map (He.cT K), LamX.TabB base mg p.1 p.2) → Ev fa fn ts tq (exQ tq) w h K mg base := fun base hB => ⟨KX, Gh, c, fun p hp => hB _ (List.mem_map.mpr ⟨p, hp, rfl⟩), of_decide_eq_true c.more⟩
  have ef : f = He.fAd K d.at_ := by
    have q := He.glo_ok KX Gh (c.t.d.fact i hg)
    rw [hf] at q
    rw [hat]
    cases q
    rfl
  subst ef
  obtain ⟨fd, F⟩ := c.t.d.def_ j hd
  have q : fdOf K d.at_ = fd := by
    obtain ⟨oc, od, dV, kV, doc, pm, an, cdv, ct, osl, e1, lk, _⟩ := F.ex
    unfold fdOf
    rw [lk]
  refine ⟨fdOf K d.at_, (tq.map (·.1)).map (He.cT K), spLaw K (TQ tq K) n, fun p hp => ?_, fun p hp => ?_, fun p hp => ?_, fun s u => ?_, fun H a ns hl hb hH hS => ?_, fun base _ _ hB => hF base (ev base hB)⟩
  · obtain ⟨x, hx, rfl⟩ := List.mem_map.mp hp
    exact c.empty x hx
  · obtain ⟨x, hx, rfl⟩ := List.mem_map.mp hp
    exact c.out x hx
  · obtain ⟨x, hx, rfl⟩ := List.mem_map.mp hp
    exact PySem.W.codeHd_of_K KX (c.hd x hx)
  · rw [q]
    have e0 : d.dvs K = [] := by unfold He.DefD.dvs; rw [hdf]; rfl
    rw [e0] at F
    exact FunD.bindsA (ps := ["script"]) F hbn s [u] rfl
  · refine ⟨a, ns, rfl, hS, hl, hb, fun p hp => ?_, fun _ => rfl⟩
    obtain ⟨x, hx, rfl⟩ := List.mem_map.mp hp
    exact LamX.TabS.nil (hH _ (List.mem_map.mpr ⟨x.1, List.mem_map.mpr ⟨x, hx, rfl⟩, rfl⟩))
theorem cx_none {P : Program} (w : World) (H : Hp) (s : Shared) (e : Value) (s' : Shared) (h : L2.CX P w [] H s (fun _ _ _ => False) e s') : False := by
  obtain ⟨_, _, _, _, _, _, _, _, _, _, _, _, z⟩ := h
  exact z.elim
end
end Fd

set_option Elab.async false
set_option linter.all false
set_option maxRecDepth 100000
set_option maxHeartbeats 1000000
namespace Fd
open PySem PySem.Spec PyProof.Rows L2
/-! ### a part that looks at no owned object, told in an empty store -/
mutual
/-- no owned object in it -/
def noRef : D → Bool
  | .ref _ => false
  | .lam _ => false
  | .tup ds => noRefs ds
  | .kt ds => noRefs ds
  | .kl ds => noRefs ds
  | .lst ds => noRefs ds
  | .dct _ kvs => noRefk kvs
  | _ => true
def noRefs : List D → Bool
  | [] => true
  | d :: ds => noRef d && noRefs ds
def noRefk : List (DK × D) → Bool
  | [] => true
  | (_, d) :: ds => noRef d && noRefk ds
end
mutual
/-- atoms and tuples of such -/
def flat : D → Bool
  | .ref _ => false
  | .lam _ => false
  | .tup ds => flats ds
  | .kt ds => flats ds
  | .kl ds => flats ds
  | .lst _ => false
  | .dct _ _ => false
  | _ => true
def flats : List D → Bool
  | [] => true
  | d :: ds => flat d && flats ds
end
section
variable {G : Gx} {μ : Nat → Addr} {n : Nat} {S : Sto} {H : Hp}
theorem notOwn0 {μ : Nat → Addr} {a : Addr} : NotOwn μ 0 a := fun l hl => absurd hl (Nat.not_lt_zero _)
mutual
theorem rv_zero : ∀ (d : D) (v : V), noRef d = true → RV G μ n H d v → RV G μ 0 H d v
  | .non, _, _, h => h
  | .bl _, _, _, h => h
  | .int _, _, _, h => h
  | .str _, _, _, h => h
  | .tup ds, _, q, ⟨a, vs, h1, h2, h3⟩ => ⟨a, vs, h1, h2, rvs_zero ds vs q h3⟩
  | .kt ds, _, q, ⟨a, vs, h1, h2, h3⟩ => ⟨a, vs, h1, h2, rvs_zero ds vs q h3⟩
  | .kl ds, _, q, ⟨a, vs, h1, h2, h3⟩ => ⟨a, vs, h1, h2, rvs_zero ds vs q h3⟩
  | .lst ds, _, q, ⟨a, vs, h1, h2, h3, h4⟩ => ⟨a, vs, h1, notOwn0, h3, rvs_zero ds vs q h4⟩
  | .dct t ds, _, q, ⟨a, vs, od, o, h1, h2, h3, h4, h5⟩ => ⟨a, vs, od, o, h1, notOwn0, h3, h4, rvk_zero ds vs q h5⟩
  | .ref _, _, q, _ => by cases q
  | .lam _, _, q, _ => by cases q
theorem rvs_zero : ∀ (ds : List D) (vs : List V), noRefs ds = true → RVs G μ n H ds vs → RVs G μ 0 H ds vs
  | [], _, _, h => h
  | d :: ds, _, q, ⟨v, r, h1, h2, h3⟩ => by
    have q := Bool.and_eq_true_iff.mp (show (noRef d && noRefs ds) = true from q)
    exact ⟨v, r, h1, rv_zero d v q.1 h2, rvs_zero ds r q.2 h3⟩
theorem rvk_zero : ∀ (ds : List (DK × D)) (vs : List (DK × V)), noRefk ds = true → RVk G μ n H ds vs → RVk G μ 0 H ds vs
  | [], _, _, h => h
  | (k, d) :: ds, _, q, ⟨v, r, h1, h2, h3⟩ => by
    have q := Bool.and_eq_true_iff.mp (show (noRef d && noRefk ds) = true from q)
    exact ⟨v, r, h1, rv_zero d v q.1 h2, rvk_zero ds r q.2 h3⟩
end
mutual
theorem rv_flat {μ' : Nat → Addr} {n' : Nat} : ∀ (d : D) (v : V), flat d = true → RV G μ n H d v → RV G μ' n' H d v
  | .non, _, _, h => h
  | .bl _, _, _, h => h
  | .int _, _, _, h => h
  | .str _, _, _, h => h
  | .tup ds, _, q, ⟨a, vs, h1, h2, h3⟩ => ⟨a, vs, h1, h2, rvs_flat ds vs q h3⟩
  | .kt ds, _, q, ⟨a, vs, h1, h2, h3⟩ => ⟨a, vs, h1, h2, rvs_flat ds vs q h3⟩
  | .kl ds, _, q, ⟨a, vs, h1, h2, h3⟩ => ⟨a, vs, h1, h2, rvs_flat ds vs q h3⟩
  | .lst _, _, q, _ => by cases q
  | .dct _ _, _, q, _ => by cases q
  | .ref _, _, q, _ => by cases q
  | .lam _, _, q, _ => by cases q
theorem rvs_flat {μ' : Nat → Addr} {n' : Nat} : ∀ (ds : List D) (vs : List V), flats ds = true → RVs G μ n H ds vs → RVs G μ' n' H ds vs
  | [], _, _, h => h
  | d :: ds, _, q, ⟨v, r, h1, h2, h3⟩ => by
    have q := Bool.and_eq_true_iff.mp (show (flat d && flats ds) = true from q)
    exact ⟨v, r, h1, rv_flat d v q.1 h2, rvs_flat ds r q.2 h3⟩
end
abbrev Sto.e : Sto := ⟨[], []⟩
theorem Lnk.empty (L : Lnk G μ S H) : Lnk G μ Sto.e H := ⟨fun l hl => absurd hl (Nat.not_lt_zero _), fun l o e => by simp at e, L.tab, fun l hl => by cases hl⟩
/-- what a part did that knew no owned object -/
theorem Stp.forget (L : Lnk G μ S H) {μ' : Nat → Addr} {S' : Sto} {H' : Hp} (s : Stp G μ Sto.e H μ' S' H') : Stp G μ S H μ S H' := by
  have g : Grow μ S.n H μ S.n H' := ⟨.refl _ _, fun l h1 h2 => absurd h2 (by omega), fun a o e _ nt => s.grow.ext.keep a o e notOwn0 nt, s.grow.ext.frz, s.grow.ext.there⟩
  refine ⟨⟨L.inj, fun l o e => ?_, s.lnk.tab, L.lk⟩, g⟩
  have h := L.ob l o e
  obtain ⟨u, hu, nt, _⟩ := h.hd
  exact h.mono g L.tf ((s.grow.ext.keep _ u hu notOwn0 nt).trans hu.symm)
end
def freshD (den : List D → M D) : List D → M D := fun ds S => if noRefs ds = true then (match den ds Sto.e with
  | .ok d _ => if flat d = true then .ok d S else den ds S
  | .exc c _ => .exc c S
  | .stk => den ds S) else den ds S
theorem fnD_fresh {G : Gx} {P : Program} {w : World} {mg : Str → Option Value} {base : Heap} {k : Nat} {f : Addr} {fd : FuncData} {ps : List Str} {den : List D → M D} (F : FnD P w mg base G k f fd ps den) : FnD P w mg base G k f fd ps (freshD den) := by
  refine F.imp fun vs H Q E ⟨ds, S, μ, h1, h2, L, p⟩ => ?_
  unfold freshD at p
  by_cases hn : noRefs ds = true
  · rw [if_pos hn] at p
    have r0 := rvs_zero ds vs hn h2
    cases e : den ds Sto.e with
    | stk => rw [e] at p; exact ⟨ds, S, μ, h1, h2, L, p⟩
    | exc c S' =>
      rw [e] at p
      refine ⟨ds, Sto.e, μ, h1, r0, L.empty, ?_⟩
      rw [e]
      exact fun μ' H' s => p μ H' (Stp.forget L s)
    | ok d S' =>
      rw [e] at p
      simp only at p
      by_cases hf : flat d = true
      · rw [if_pos hf] at p
        refine ⟨ds, Sto.e, μ, h1, r0, L.empty, ?_⟩
        rw [e]
        exact fun μ' H' s v rv => p μ H' (Stp.forget L s) v (rv_flat d v hf rv)
      · rw [if_neg hf] at p
        exact ⟨ds, S, μ, h1, h2, L, p⟩
  · rw [if_neg hn] at p
    exact ⟨ds, S, μ, h1, h2, L, p⟩
/-- the rest of a def, told with an empty store and no slot known; it must return a flat thing -/
def freshS (g : En → M Fl) : En → M Fl := fun σ S => match g (σ.map fun _ => none) Sto.e with
  | .ok (.rt d) _ => if flat d = true then .ok (.rt d) S else .stk
  | _ => .stk
theorem sss_fresh {X : Cx} {G : Gx} {W : XK} {rest : List Stmt} {g : En → M Fl} (h : SSs X G W rest g) : SSs X G W rest (freshS g) := by
  refine ⟨fun pins s σ H Dn I ⟨σd, S, μ, a, p⟩ => h.run pins s σ H Dn I ?_⟩
  unfold freshS at p
  refine ⟨σd.map fun _ => none, Sto.e, μ, ⟨⟨by rw [List.length_map]; exact a.en.len, fun i d e => ?_⟩, a.lnk.empty⟩, ?_⟩
  · rw [List.getElem?_map] at e
    cases q : σd[i]? with
    | none => rw [q] at e; cases e
    | some x => rw [q] at e; cases e
  · cases e : g (σd.map fun _ => none) Sto.e with
    | stk => rw [e] at p; exact p.elim
    | exc c S' => rw [e] at p; exact p.elim
    | ok fl S' =>
      rw [e] at p
      cases fl with
      | rt d =>
        simp only at p
        by_cases hf : flat d = true
        · rw [if_pos hf] at p
          exact fun μ' H' s v rv => p μ H' (Stp.forget a.lnk s) v (rv_flat d v hf rv)
        · rw [if_neg hf] at p; exact p.elim
      | _ => exact p.elim
end Fd

set_option Elab.async false
set_option linter.all false
set_option maxRecDepth 100000
set_option maxHeartbeats 1000000
namespace Fd
open PySem PySem.Spec PyProof.Rows L2
/-! ### what a part of a denotation does, as a statement -/
def wp {α : Type} (m : M α) (S : Sto) (Q : α → Sto → Prop) (E : Nat → Sto → Prop) : Prop := match m S with
  | .ok a S' => Q a S'
  | .exc c S' => E c S'
  | .stk => False
section
variable {α β : Type} {S S' : Sto} {Q : α → Sto → Prop} {E : Nat → Sto → Prop} {σ : En}
theorem wp_bind (f : M α) (k : α → M β) (Q : β → Sto → Prop) : wp (f >>= k) S Q E = wp f S (fun a S' => wp (k a) S' Q E) E := by
  unfold wp
  show (match M.bind f k S with | .ok a S' => Q a S' | .exc c S' => E c S' | .stk => False) = _
  unfold M.bind
  cases f S <;> rfl
theorem wp_pure (a : α) : wp (M.pure a) S Q E = Q a S := rfl
theorem wp_ok (a : α) (S'' : Sto) : wp (fun _ => R.ok a S'') S Q E = Q a S'' := rfl
theorem wp_exc (c : Nat) : wp (M.exc c : M α) S Q E = E c S := rfl
theorem wp_stk : wp (M.stk : M α) S Q E = False := rfl
theorem wp_ite (c : Prop) [Decidable c] (f g : M α) : wp (if c then f else g) S Q E = if c then wp f S Q E else wp g S Q E := by
  by_cases h : c
  · rw [if_pos h, if_pos h]
  · rw [if_neg h, if_neg h]
theorem wp_of {m : M α} {a : α} (h : m S = .ok a S') (q : Q a S') : wp m S Q E := by unfold wp; rw [h]; exact q
theorem wp_eq {m : M α} {a : α} (h : m S = .ok a S') : wp m S Q E = Q a S' := by unfold wp; rw [h]
theorem wp_eqx {m : M α} {c : Nat} (h : m S = .exc c S') : wp m S Q E = E c S' := by unfold wp; rw [h]
theorem wp_mono {m : M α} {Q' : α → Sto → Prop} {E' : Nat → Sto → Prop} (h : wp m S Q E) (hq : ∀ a S', Q a S' → Q' a S') (he : ∀ c S', E c S' → E' c S') : wp m S Q' E' := by
  unfold wp at *
  cases e : m S with
  | ok a S1 => rw [e] at h; exact hq _ _ h
  | exc c S1 => rw [e] at h; exact he _ _ h
  | stk => rw [e] at h; exact h.elim
theorem wp_out {m : M α} (h : wp m S Q fun _ _ => False) : ∃ a S', m S = .ok a S' ∧ Q a S' := by
  unfold wp at h
  cases e : m S with
  | ok a S1 => rw [e] at h; exact ⟨a, S1, rfl, h⟩
  | exc c S1 => rw [e] at h; exact h.elim
  | stk => rw [e] at h; exact h.elim
/-- a call's own statement stands for the call -/
theorem wp_use {m : M α} {Q1 : α → Sto → Prop} {E1 : Nat → Sto → Prop} (h : wp m S Q1 E1) (k : wp m S Q1 E1 → ∀ a S', m S = .ok a S' → Q1 a S' → Q a S') (kx : ∀ c S', m S = .exc c S' → E1 c S' → E c S') : wp m S Q E := by
  have h0 := h
  unfold wp at h ⊢
  cases e : m S with
  | ok a S1 => rw [e] at h; exact k h0 a S1 e h
  | exc c S1 => rw [e] at h; exact kx c S1 e h
  | stk => rw [e] at h; exact h.elim
end
/-! ### operators at ints, texts -/
section
variable {S : Sto} {Q : D → Sto → Prop} {E : Nat → Sto → Prop}
theorem eqv_int (i j : Int) : PyData.eqv (.int i) (.int j) = decide (i = j) := by
  unfold PyData.eqv
  first | rfl | simp
theorem wp_addI (i j : Int) : wp (addA (.int i) (.int j)) S Q E = Q (.int (i + j)) S := rfl
theorem wp_subI (i j : Int) : wp (subI (.int i) (.int j)) S Q E = Q (.int (i - j)) S := rfl
theorem wp_mulI {i j : Int} (h : (-(2 ^ 64) < i ∧ i < 2 ^ 64) ∨ (-(2 ^ 64) < j ∧ j < 2 ^ 64)) : wp (mulA (.int i) (.int j)) S Q E = Q (.int (i * j)) S := by
  refine wp_eq ?_
  show (if _ then _ else _ : M D) S = _
  rw [if_pos]
  · rfl
  · simp only [Bool.or_eq_true, Bool.and_eq_true, decide_eq_true_eq]
    exact h
theorem wp_modI {i j : Int} (h : 0 < j) : wp (modI (.int i) (.int j)) S Q E = Q (.int (i % j)) S := by
  refine wp_eq ?_
  show (if _ then _ else _ : M D) S = _
  rw [if_pos (decide_eq_true h)]
  rfl
theorem wp_fdvI {i j : Int} (h : 0 < j) (h2 : j < 1073741824) : wp (fdvI (.int i) (.int j)) S Q E = Q (.int (i / j)) S := by
  refine wp_eq ?_
  show (if _ then _ else _ : M D) S = _
  rw [if_pos (by show (decide (0 < j) && decide (j < 1073741824)) = true; rw [decide_eq_true h, decide_eq_true h2]; rfl)]
  rfl
theorem wp_ltI (i j : Int) : wp (ltA (.int i) (.int j)) S Q E = Q (.bl (decide (i < j))) S := rfl
theorem wp_leI (i j : Int) : wp (leI (.int i) (.int j)) S Q E = Q (.bl (decide (i ≤ j))) S := rfl
theorem wp_gtI (i j : Int) : wp (gtI (.int i) (.int j)) S Q E = Q (.bl (decide (j < i))) S := rfl
theorem wp_geI (i j : Int) : wp (geI (.int i) (.int j)) S Q E = Q (.bl (decide (j ≤ i))) S := rfl
theorem wp_eqI (i j : Int) : wp (eqA (.int i) (.int j)) S Q E = Q (.bl (decide (i = j))) S := by
  refine wp_eq ?_
  show R.ok (D.bl (PyData.eqv (.int i) (.int j))) S = _
  rw [eqv_int]
theorem wp_neI (i j : Int) : wp (neA (.int i) (.int j)) S Q E = Q (.bl (!decide (i = j))) S := by
  refine wp_eq ?_
  show R.ok (D.bl (!PyData.eqv (.int i) (.int j))) S = _
  rw [eqv_int]
theorem wp_asB (b : Bool) {Q : Bool → Sto → Prop} : wp (asB (.bl b)) S Q E = Q b S := rfl
theorem wp_intI (i : Int) : wp (intC [.int i]) S Q E = Q (.int i) S := rfl
theorem wp_intB (b : Bool) : wp (intC [.bl b]) S Q E = Q (.int (if b then 1 else 0)) S := rfl
end
/-! ### objects -/
theorem put_at {S : Sto} {l : Nat} {o : SO} (h : l < S.objs.length) : (S.put l o).objs[l]? = some o := by
  show (S.objs.set l o)[l]? = _
  rw [List.getElem?_set_self h]
theorem put_ne {S : Sto} {l k : Nat} {o : SO} (h : l ≠ k) : (S.put l o).objs[k]? = S.objs[k]? := by
  show (S.objs.set l o)[k]? = _
  rw [List.getElem?_set_ne h]
theorem put_put (S : Sto) (l : Nat) (o o' : SO) : (S.put l o).put l o' = S.put l o' := by
  show (⟨(S.objs.set l o).set l o', _⟩ : Sto) = ⟨S.objs.set l o', _⟩
  rw [List.set_set]
theorem set_lst {S : Sto} {l : Nat} {ds : List D} {i : Int} {j : Nat} {v : D} (ho : S.objs[l]? = some (.lst ds)) (hl : S.locked l = false) (hj : ixN ds.length i = some j) : setO (.ref l) (.int i) v S = .ok () (S.put l (.lst (ds.set j v))) := by
  unfold setO
  simp only [hl, ho, hj, if_false, Bool.false_eq_true]
theorem item3 {S : Sto} {l : Nat} {a b c : D} (ho : S.objs[l]? = some (.lst [a, b, c])) : itemO (.ref l) (.int 0) S = .ok a S ∧ itemO (.ref l) (.int 1) S = .ok b S ∧ itemO (.ref l) (.int 2) S = .ok c S := by
  refine ⟨?_, ?_, ?_⟩ <;> (unfold itemO alt2 dctD; simp only [ho]; unfold ixO seqL tupD; simp only [ho]; rfl)
/-! ### loops -/
section
variable {E : Nat → Sto → Prop}
theorem wp_loop {g : D → En → M En} {b : En → M Fl} {Q : Fl → Sto → Prop} (I : List D → En → Sto → Prop) (step : ∀ d ds σ S, I (d :: ds) σ S → wp (g d σ) S (fun σ1 S1 => wp (b σ1) S1 (fun fl S2 => match fl with
    | .nx σ2 => I ds σ2 S2
    | .ct σ2 => I ds σ2 S2
    | .bk σ2 => Q (.nx σ2) S2
    | .rt d => Q (.rt d) S2) E) E) (done : ∀ σ S, I [] σ S → Q (.nx σ) S) : ∀ (ds : List D) (σ : En) (S : Sto), I ds σ S → wp (loopM g b ds σ) S Q E
  | [], σ, S, h => done σ S h
  | d :: ds, σ, S, h => by
    unfold loopM
    rw [wp_bind]
    refine wp_mono (step d ds σ S h) (fun σ1 S1 h1 => ?_) fun _ _ z => z
    rw [wp_bind]
    refine wp_mono h1 (fun fl S2 h2 => ?_) fun _ _ z => z
    cases fl with
    | nx σ2 => exact wp_loop I step done ds σ2 S2 h2
    | ct σ2 => exact wp_loop I step done ds σ2 S2 h2
    | bk σ2 => exact h2
    | rt d => exact h2
theorem wp_while {c : En → M Bool} {b : En → M Fl} {Q : Fl → Sto → Prop} (I : Nat → En → Sto → Prop) (step : ∀ m σ S, I m σ S → wp (c σ) S (fun k S1 => if k = true then wp (b σ) S1 (fun fl S2 => match fl with
    | .nx σ2 => ∃ m', m' < m ∧ I m' σ2 S2
    | .ct σ2 => ∃ m', m' < m ∧ I m' σ2 S2
    | .bk σ2 => Q (.nx σ2) S2
    | .rt d => Q (.rt d) S2) E else Q (.nx σ) S1) E) : ∀ (n m : Nat) (σ : En) (S : Sto), m < n → I m σ S → wp (whileM c b n σ) S Q E
  | 0, m, _, _, h, _ => absurd h (Nat.not_lt_zero _)
  | n + 1, m, σ, S, hm, h => by
    unfold whileM
    rw [wp_bind]
    refine wp_mono (step m σ S h) (fun k S1 h1 => ?_) fun _ _ z => z
    rw [wp_ite]
    by_cases hk : k = true
    · rw [if_pos hk] at h1 ⊢
      rw [wp_bind]
      refine wp_mono h1 (fun fl S2 h2 => ?_) fun _ _ z => z
      cases fl with
      | nx σ2 => obtain ⟨m', h3, h4⟩ := h2; exact wp_while I step n m' σ2 S2 (by omega) h4
      | ct σ2 => obtain ⟨m', h3, h4⟩ := h2; exact wp_while I step n m' σ2 S2 (by omega) h4
      | bk σ2 => exact h2
      | rt d => exact h2
    · rw [if_neg hk] at h1 ⊢
      exact h1
theorem wp_nox {α : Type} {m : M α} {S : Sto} {Q : α → Sto → Prop} (h : wp m S Q fun _ _ => False) : wp (nox m) S Q E := by
  unfold wp nox at *
  cases e : m S with
  | ok a S1 => rw [e] at h; exact h
  | exc c S1 => rw [e] at h; exact h.elim
  | stk => rw [e] at h; exact h.elim
theorem wp_genL {bod : D → M (Option D)} {chk : List D → D → Option (Option D)} {fin : List D → M D} {Q : D → Sto → Prop} (I : List D → List D → Sto → Prop) (step : ∀ ys d ds S, I ys (d :: ds) S → wp (bod d) S (fun o S' => match o with
    | none => I ys ds S'
    | some y => match chk ys y with
      | none => False
      | some (some r) => Q r S'
      | some none => I (ys ++ [y]) ds S') fun _ _ => False) (done : ∀ ys S, I ys [] S → wp (fin ys) S Q E) : ∀ (ds ys : List D) (S : Sto), I ys ds S → wp (genL bod chk fin ys ds) S Q E
  | [], ys, S, h => done ys S h
  | d :: ds, ys, S, h => by
    unfold genL
    rw [wp_bind]
    refine wp_nox (wp_mono (step ys d ds S h) (fun o S1 h1 => ?_) fun _ _ z => z)
    cases o with
    | none => exact wp_genL I step done ds ys S1 h1
    | some y =>
      simp only at h1 ⊢
      cases ec : chk ys y with
      | none => rw [ec] at h1; exact h1.elim
      | some r =>
        rw [ec] at h1
        cases r with
        | none => exact wp_genL I step done ds _ S1 h1
        | some r => exact h1
/-- a comprehension that changes nothing -/
theorem wp_genP {bod : D → M (Option D)} {fin : List D → M D} {Q : D → Sto → Prop} {S : Sto} (f : D → Option D) : ∀ (ds ys : List D), (∀ d ∈ ds, bod d S = .ok (f d) S) → ys.length + ds.length ≤ sizeLine → wp (fin (ys ++ ds.filterMap f)) S Q E → wp (genL bod chkAll fin ys ds) S Q E
  | [], ys, _, _, h => by
    rw [List.filterMap_nil, List.append_nil] at h
    exact h
  | d :: ds, ys, hb, hl, h => by
    unfold genL
    rw [wp_bind]
    have e := hb d List.mem_cons_self
    refine wp_nox (wp_of e ?_)
    rw [List.length_cons] at hl
    cases ef : f d with
    | none =>
      rw [List.filterMap_cons, ef] at h
      exact wp_genP f ds ys (fun x hx => hb x (List.mem_cons_of_mem _ hx)) (by omega) h
    | some y =>
      rw [List.filterMap_cons, ef] at h
      have hc : chkAll ys y = some none := if_pos (by omega)
      simp only [hc]
      refine wp_genP f ds (ys ++ [y]) (fun x hx => hb x (List.mem_cons_of_mem _ hx)) (by rw [List.length_append, List.length_singleton]; omega) ?_
      rw [List.append_assoc]
      exact h
end
end Fd

set_option Elab.async false
set_option linter.all false
set_option maxRecDepth 100000
set_option maxHeartbeats 4000000
namespace K04
open PySem PySem.Spec PyProof.Rows L2 LamX Fd
def top (i : Nat) : Stmt := PySem.Challenge.pw_tailorstack_k04_cuts_from_bolts.main.body.getD i (.Pass ⟨0, 0, 0, 0⟩)
abbrev s_CupboardInit : Stmt := inClass (top 5) 0
abbrev s_CupboardAdd : Stmt := inClass (top 5) 1
abbrev s_CupboardCut : Stmt := inClass (top 5) 2
abbrev s_CupboardWhole : Stmt := inClass (top 5) 3
abbrev s_CupboardCutFor : Stmt := inClass (top 5) 4
abbrev s_bestCuts : Stmt := top 6
abbrev s_laysFor : Stmt := top 7
abbrev s_lawDice : Stmt := top 9
abbrev s_lawRoll : Stmt := top 10
abbrev s_lawRounds : Stmt := top 11
abbrev s_lawTold : Stmt := top 12
abbrev s_lawWays : Stmt := top 13
abbrev s_law : Stmt := top 14
abbrev dd (p : Str × Option Str) (n q : Str) (s : Stmt) : He.DefD := ⟨p, n, q, defArgs s, defBody s, defScope s, [], []⟩
abbrev d_CupboardInit : He.DefD := dd ("Cupboard", some "__init__") "__init__" "Cupboard.__init__" s_CupboardInit
abbrev d_CupboardAdd : He.DefD := dd ("Cupboard", some "add") "add" "Cupboard.add" s_CupboardAdd
abbrev d_CupboardCut : He.DefD := dd ("Cupboard", some "cut") "cut" "Cupboard.cut" s_CupboardCut
abbrev d_CupboardWhole : He.DefD := dd ("Cupboard", some "whole") "whole" "Cupboard.whole" s_CupboardWhole
abbrev d_CupboardCutFor : He.DefD := dd ("Cupboard", some "cut_for") "cut_for" "Cupboard.cut_for" s_CupboardCutFor
abbrev d_bestCuts : He.DefD := dd ("best_cuts", none) "best_cuts" "best_cuts" s_bestCuts
abbrev d_laysFor : He.DefD := dd ("lays_for", none) "lays_for" "lays_for" s_laysFor
abbrev d_lawDice : He.DefD := dd ("_law_dice", none) "_law_dice" "_law_dice" s_lawDice
abbrev d_lawRoll : He.DefD := dd ("_law_roll", none) "_law_roll" "_law_roll" s_lawRoll
abbrev d_lawRounds : He.DefD := dd ("_law_rounds", none) "_law_rounds" "_law_rounds" s_lawRounds
abbrev d_lawTold : He.DefD := dd ("_law_told", none) "_law_told" "_law_told" s_lawTold
abbrev d_lawWays : He.DefD := dd ("_law_ways", none) "_law_ways" "_law_ways" s_lawWays
abbrev d_law : He.DefD := dd ("law", none) "law" "law" s_law
def fn : List He.DefD := [d_CupboardInit, d_CupboardAdd, d_CupboardCut, d_CupboardWhole, d_CupboardCutFor, d_bestCuts, d_laysFor, d_lawDice, d_lawRoll, d_lawRounds, d_lawTold, d_lawWays, d_law]
def fa : List He.Fa := [.cls "Cupboard", .noat "Cupboard" "bolts", .noat "Cupboard" "cuts", .noat "Cupboard" "rags", .free "len", .int "MOST_BOLTS" 20, .exc "BoltError", .glo "BoltError", .free "min", .free "sum", .free "any", .free "tuple", .free "range", .free "dict", .free "sorted", .free "abs", .free "int", .glo "_law_roll", .glo "_law_dice", .meth "Cupboard" "add", .mkr "Cupboard", .glo "Cupboard", .meth "Cupboard" "cut", .glo "best_cuts", .glo "lays_for", .glo "_law_rounds", .free "str", .free "list", .meth "Cupboard" "whole", .meth "Cupboard" "cut_for", .glo "_law_ways", .glo "_law_told", .exm "BoltError" "BoltError" true, .glo "law"]
def tq : List TabQ := [(("Cupboard", some "cut_for"), (("Cupboard.cut_for" : Str) ++ ".<locals>.") ++ "<genexpr>"), (("best_cuts", none), (("best_cuts" : Str) ++ ".<locals>.") ++ "<genexpr>"), (("lays_for", none), (("lays_for" : Str) ++ ".<locals>.") ++ "<genexpr>"), (("law", none), (("law" : Str) ++ ".<locals>.") ++ "<lambda>")]
def cls : List Str := ["BoltError", "Cupboard"]
abbrev ex : PySem.W.Frag → Bool := exQ tq
abbrev E (w : World) (h : Heap) (K : PySem.W.Frag) (mg : Str → Option Value) (base : Heap) : Prop := Ev fa fn [] tq ex w h K mg base
abbrev GG (K : PySem.W.Frag) (lp : Nat → Addr → Addr → HO → HO → Prop) : Gx := GX cls tq K lp
section
variable {P : Program} {w : World} {h : Heap} {K : PySem.W.Frag} {mg : Str → Option Value} {base : Heap}
def okc : Nat → Bool := fun i => decide (i ∈ [0])
theorem hexc {lp : Nat → Addr → Addr → HO → HO → Prop} (e : E w h K mg base) : ∀ i, okc i = true → PySem.W.exmOne K (.ref ((GG K lp).cA i)) (.ref (He.ga K "BoltError")) = some true := fun i hi => by
  have hi : i ∈ [0] := of_decide_eq_true hi
  simp only [List.mem_cons, List.not_mem_nil, or_false] at hi
  rcases hi with rfl
  · exact e.exm 32
theorem told (e : E w h K mg base) : ToldF K mg "_law_told" "BoltError" (He.fAd K d_lawTold.at_) (He.ga K "BoltError") := by
  obtain ⟨oc, od, dV, kV, doc, pm, an, cdv, ct, osl, efd, lk, hcd, hD, _⟩ := (e.def_ 10 (d := d_lawTold)).ex
  have hb : L2.Binds K (fdOf K d_lawTold.at_) ["what"] [] := e.binds 10 (d := d_lawTold) rfl (fun _ _ _ _ _ _ us hl => match us, hl with | [_], _ => rfl) rfl
  rw [efd] at lk hb
  exact ⟨⟨_, _, _, _, _, _, _, _, _, _, _, _, _, _, _, ["what"], _, _, _, _, _, _, _, _, lk, hcd, hb, ⟨rfl, rfl, rfl, by decide +kernel, rfl, by decide +kernel, by decide +kernel⟩, rfl, .inl rfl, rfl, e.glo 7, by decide, by decide, by decide⟩, e.glo 31, e.keep 10 (d := d_lawTold)⟩
def N_CupboardInit : List Str := ["self"]
theorem sc_CupboardInit : FnScope N_CupboardInit ["self"] (defScope s_CupboardInit) := ⟨rfl, rfl, rfl, by decide +kernel, rfl, by decide +kernel, by decide +kernel⟩
def dn_CupboardInit : En → M Fl := (seqS (fldS 1 "bolts" (getV 0) (newDE false)) (seqS (fldS 1 "cuts" (getV 0) (lstO nilA)) (fldS 1 "rags" (getV 0) (cst (.int 0)))))
def D_CupboardInit : List D → M D := bodyD 1 dn_CupboardInit
theorem b_CupboardInit (e : E w h K mg base) : L2.Binds K (fdOf K d_CupboardInit.at_) ["self"] [] := e.binds 0 (d := d_CupboardInit) rfl (fun _ _ _ _ _ _ us hl => match us, hl with | [_], _ => rfl) rfl
theorem ok_CupboardInit {lp : Nat → Addr → Addr → HO → HO → Prop} (e : E w h K mg base) : FnD P w mg base (GG K lp) 3 (He.fAd K d_CupboardInit.at_) (fdOf K d_CupboardInit.at_) ["self"] D_CupboardInit :=
  fnC_ok (G := GG K lp) (p := d_CupboardInit.at_) (N := N_CupboardInit) (k := 2) (fb := dn_CupboardInit) (e.def_ 0 (d := d_CupboardInit)) sc_CupboardInit fun A outer s H E hr tk => by
  unfold dn_CupboardInit
  exact (sss_cons (by exact (ss_fld 1 (e.cls 0) (e.noat 1) (se_var 0) (se_dnew false))) (sss_cons (by exact (ss_fld 1 (e.cls 0) (e.noat 2) (se_var 0) (se_lstO sa_nil))) (sss_one (by exact (ss_fld 1 (e.cls 0) (e.noat 3) (se_var 0) se_int)))))
def N_CupboardAdd : List Str := ["self", "name", "length"]
theorem sc_CupboardAdd : FnScope N_CupboardAdd ["self", "name", "length"] (defScope s_CupboardAdd) := ⟨rfl, rfl, rfl, by decide +kernel, rfl, by decide +kernel, by decide +kernel⟩
def dn_CupboardAdd : En → M Fl := (seqS (ifS (orT (tst1 (bin2 inO (getV 1) (fldE 1 "bolts" (getV 0)))) (orT (tst1 (bin2 ltA (getV 2) (cst (.int 10)))) (tst1 (bin2 geI (callE (consA (fldE 1 "bolts" (getV 0)) nilA) lenC) (cst (.int 20)))))) (fun _ => M.exc 0) skip) (asgS (getV 2) (subG (fldE 1 "bolts" (getV 0)) (getV 1))))
def D_CupboardAdd : List D → M D := bodyD 3 dn_CupboardAdd
theorem b_CupboardAdd (e : E w h K mg base) : L2.Binds K (fdOf K d_CupboardAdd.at_) ["self", "name", "length"] [] := e.binds 1 (d := d_CupboardAdd) rfl (fun _ _ _ _ _ _ us hl => match us, hl with | [_, _, _], _ => rfl) rfl
theorem ok_CupboardAdd {lp : Nat → Addr → Addr → HO → HO → Prop} (e : E w h K mg base) : FnD P w mg base (GG K lp) 3 (He.fAd K d_CupboardAdd.at_) (fdOf K d_CupboardAdd.at_) ["self", "name", "length"] D_CupboardAdd :=
  fnC_ok (G := GG K lp) (p := d_CupboardAdd.at_) (N := N_CupboardAdd) (k := 2) (fb := dn_CupboardAdd) (e.def_ 1 (d := d_CupboardAdd)) sc_CupboardAdd fun A outer s H E hr tk => by
  unfold dn_CupboardAdd
  exact (sss_cons (by exact (ss_if (sw_or (st_in rfl hr.units (se_var 1) (se_fld 1 (e.cls 0) (e.noat 1) (se_var 0))) (sw_or (st_cmp (od_ltA rfl hr.units) (se_var 2) se_int) (sw_or1 (st_cmp od_geI (se_callB (cd_len rfl) (e.free 4) (sa_cons (se_fld 1 (e.cls 0) (e.noat 1) (se_var 0)) sa_nil)) (se_glob (v := .int 20) (d := .int 20) (by rfl) (e.int 5).choose_spec ⟨_, rfl⟩ fun _ _ _ => rfl))))).pt (sss_one (by exact (ss_raise 0 rfl tk PySem.F.excBase_ValueError (e.exc 6).1 (e.glo 7) (e.exc 6).2.1 (raises_own (e.exc 6).2.2.1 (e.exc 6).2.2.2)))) sss_nil)) (sss_one (by exact (ss_asg (se_var 2) (sg_sub (hu_of hr) (se_fld 1 (e.cls 0) (e.noat 1) (se_var 0)) (se_var 1))))))
def N_CupboardCut : List Str := ["self", "what", "length", "rows", "name"]
theorem sc_CupboardCut : FnScope N_CupboardCut ["self", "what", "length"] (defScope s_CupboardCut) := ⟨rfl, rfl, rfl, by decide +kernel, rfl, by decide +kernel, by decide +kernel⟩
def dn_CupboardCut : En → M Fl := (seqS (lockQ (locF 0 1 "bolts") (setS 3 (genE (itSeq (fldE 1 "bolts" (getV 0))) [4] (nameG 4) (tst1 (bin2 geI (bin2 itemO (fldE 1 "bolts" (getV 0)) (getV 4)) (getV 2))) (tupV (consA (bin2 itemO (fldE 1 "bolts" (getV 0)) (getV 4)) (consA (getV 4) nilA))) chkAll finLst))) (seqS (ifS (orT (tst1 (bin2 ltA (getV 2) (cst (.int 1)))) (tst1 (bin2 eqA (getV 3) (lstV nilA)))) (fun _ => M.exc 0) skip) (seqS (setS 4 (bin2 itemO (callE (consA (getV 3) nilA) (bestC PySem.W.dataLt)) (cst (.int 1)))) (seqS (augSubS subI (fldE 1 "bolts" (getV 0)) (getV 4) (getV 2)) (seqS (exprS (bmE "list" (fldE 1 "cuts" (getV 0)) (consA (tupV (consA (getV 4) (consA (getV 1) (consA (getV 2) nilA)))) nilA) appM)) (seqS (ifS (tst1 (bin2 ltA (bin2 itemO (fldE 1 "bolts" (getV 0)) (getV 4)) (cst (.int 10)))) (fldAugS 1 "rags" addI (getV 0) (bmE "dict" (fldE 1 "bolts" (getV 0)) (consA (getV 4) nilA) dpopM)) skip) (retS (getV 4))))))))
def D_CupboardCut : List D → M D := bodyD 5 dn_CupboardCut
theorem b_CupboardCut (e : E w h K mg base) : L2.Binds K (fdOf K d_CupboardCut.at_) ["self", "what", "length"] [] := e.binds 2 (d := d_CupboardCut) rfl (fun _ _ _ _ _ _ us hl => match us, hl with | [_, _, _], _ => rfl) rfl
theorem ok_CupboardCut {lp : Nat → Addr → Addr → HO → HO → Prop} (e : E w h K mg base) : FnD P w mg base (GG K lp) 3 (He.fAd K d_CupboardCut.at_) (fdOf K d_CupboardCut.at_) ["self", "what", "length"] D_CupboardCut :=
  fnC_ok (G := GG K lp) (p := d_CupboardCut.at_) (N := N_CupboardCut) (k := 2) (fb := dn_CupboardCut) (e.def_ 2 (d := d_CupboardCut)) sc_CupboardCut fun A outer s H E hr tk => by
  unfold dn_CupboardCut
  exact (sss_cons (by exact (ss_lockQ (locF 0 1 "bolts") (ss_setLc (own := [("name", 4)]) 3 finLst rfl sc_CupboardCut.nd finL_lst (si_seq rfl (se_fld 1 (e.cls 0) (e.noat 1) (se_var 0))) (blkOk_by (by kernel_rfl)) (.of fun s0 H0 C0 cl0 fp0 => ⟨by exact (sgc_name 4 sc_CupboardCut.nd), by exact (sts_one (st_cmp od_geI (se_item rfl (hu_of hr) (se_fld 1 (e.cls 0) (e.noat 1) (se_var 0)) (se_var 4)) (se_var 2))), by exact (se_tup (sa_cons (se_item rfl (hu_of hr) (se_fld 1 (e.cls 0) (e.noat 1) (se_var 0)) (se_var 4)) (sa_cons (se_var 4) sa_nil)))⟩)))) (sss_cons (by exact (ss_if (sw_or (st_cmp (od_ltA rfl hr.units) (se_var 2) se_int) (sw_or1 (st_cmp (od_eqA rfl hr.units) (se_var 3) (se_lstV sa_nil)))).pt (sss_one (by exact (ss_raise 0 rfl tk PySem.F.excBase_ValueError (e.exc 6).1 (e.glo 7) (e.exc 6).2.1 (raises_own (e.exc 6).2.2.1 (e.exc 6).2.2.2)))) sss_nil)) (sss_cons (by exact (ss_set 4 (se_item rfl (hu_of hr) (se_callB (cd_minD rfl rfl hr.units) (e.free 8) (sa_cons (se_var 3) sa_nil)) se_int) sc_CupboardCut.nd)) (sss_cons (by exact (ss_augSub (hu_of hr) od_isubI (se_fld 1 (e.cls 0) (e.noat 1) (se_var 0)) (se_var 4) (se_var 2))) (sss_cons (by exact (ss_expr (se_bm PySem.F.plainAttrs_list PySem.F.slot_list_append PySem.F.type_list_append mt_app (se_fld 1 (e.cls 0) (e.noat 2) (se_var 0)) (sa_cons (se_tup (sa_cons (se_var 4) (sa_cons (se_var 1) (sa_cons (se_var 2) sa_nil)))) sa_nil)))) (sss_cons (by exact (ss_if (st_cmp (od_ltA rfl hr.units) (se_item rfl (hu_of hr) (se_fld 1 (e.cls 0) (e.noat 1) (se_var 0)) (se_var 4)) se_int) (sss_one (by exact (ss_fldaug 1 od_iaddI (e.cls 0) (e.noat 3) (se_var 0) (se_bm PySem.F.plainAttrs_dict PySem.F.slot_dict_pop PySem.F.type_dict_pop mt_dpop (se_fld 1 (e.cls 0) (e.noat 1) (se_var 0)) (sa_cons (se_var 4) sa_nil))))) sss_nil)) (sss_one (by exact (ss_ret (se_var 4))))))))))
def N_CupboardWhole : List Str := ["self"]
theorem sc_CupboardWhole : FnScope N_CupboardWhole ["self"] (defScope s_CupboardWhole) := ⟨rfl, rfl, rfl, by decide +kernel, rfl, by decide +kernel, by decide +kernel⟩
def dn_CupboardWhole : En → M Fl := (retS (sumValsE (fldE 1 "bolts" (getV 0))))
def D_CupboardWhole : List D → M D := bodyD 1 dn_CupboardWhole
theorem b_CupboardWhole (e : E w h K mg base) : L2.Binds K (fdOf K d_CupboardWhole.at_) ["self"] [] := e.binds 3 (d := d_CupboardWhole) rfl (fun _ _ _ _ _ _ us hl => match us, hl with | [_], _ => rfl) rfl
theorem ok_CupboardWhole {lp : Nat → Addr → Addr → HO → HO → Prop} (e : E w h K mg base) : FnD P w mg base (GG K lp) 3 (He.fAd K d_CupboardWhole.at_) (fdOf K d_CupboardWhole.at_) ["self"] D_CupboardWhole :=
  fnC_ok (G := GG K lp) (p := d_CupboardWhole.at_) (N := N_CupboardWhole) (k := 2) (fb := dn_CupboardWhole) (e.def_ 3 (d := d_CupboardWhole)) sc_CupboardWhole fun A outer s H E hr tk => by
  unfold dn_CupboardWhole
  exact (sss_one (by exact (ss_ret (se_sumVals rfl (e.free 9) (se_fld 1 (e.cls 0) (e.noat 1) (se_var 0))))))
def N_CupboardCutFor : List Str := ["self", "what", "name", "one", "length"]
theorem sc_CupboardCutFor : FnScope N_CupboardCutFor ["self", "what"] (defScope s_CupboardCutFor) := ⟨rfl, rfl, rfl, by decide +kernel, rfl, by decide +kernel, by decide +kernel⟩
def dn_CupboardCutFor : En → M Fl := (retS (lockQ (locF 0 1 "cuts") (genE (itSeq (fldE 1 "cuts" (getV 0))) [2, 3, 4] (tupG 3 (consG (nameG 2) (consG (nameG 3) (consG (nameG 4) nilG)))) (tst1 (bin2 eqA (getV 3) (getV 1))) (getV 4) chkSum finSum)))
def D_CupboardCutFor : List D → M D := bodyD 5 dn_CupboardCutFor
theorem b_CupboardCutFor (e : E w h K mg base) : L2.Binds K (fdOf K d_CupboardCutFor.at_) ["self", "what"] [] := e.binds 4 (d := d_CupboardCutFor) rfl (fun _ _ _ _ _ _ us hl => match us, hl with | [_, _], _ => rfl) rfl
theorem ok_CupboardCutFor {lp : Nat → Addr → Addr → HO → HO → Prop} (e : E w h K mg base) : FnD P w mg base (GG K lp) 4 (He.fAd K d_CupboardCutFor.at_) (fdOf K d_CupboardCutFor.at_) ["self", "what"] D_CupboardCutFor :=
  fnC_ok (G := GG K lp) (p := d_CupboardCutFor.at_) (N := N_CupboardCutFor) (k := 3) (fb := dn_CupboardCutFor) (e.def_ 4 (d := d_CupboardCutFor)) sc_CupboardCutFor fun A outer s H E hr tk => by
  unfold dn_CupboardCutFor
  exact (sss_one (by exact (ss_ret (se_lockQ (locF 0 1 "cuts") (se_genB (own := [("name", 2), ("one", 3), ("length", 4)]) (k := 2) ⟨hr, (e.tab 0).1, rfl, rfl, (e.tab 0).2.1, (e.tab 0).2.2, sc_CupboardCutFor.nd, rfl⟩ (GSc.by (by kernel_rfl)) (si_seq rfl (se_fld 1 (e.cls 0) (e.noat 2) (se_var 0))) (use_sum hr rfl rfl ⟨fun B0 s0 H0 cl0 C0 code0 fp0 hB0 => let hr1 := fun env => hB0.room (k := 2) (env := env) hr; ⟨by exact (sgc_tup 3 rfl rfl (sgcs_cons (sgc_name 2 sc_CupboardCutFor.nd) (sgcs_cons (sgc_name 3 sc_CupboardCutFor.nd) (sgcs_cons (sgc_name 4 sc_CupboardCutFor.nd) sgcs_nil)))), by exact (sts_one (st_cmp (od_eqA rfl (hr1 _).units) (se_var 3) (se_var 1))), by exact (se_var 4)⟩⟩) (e.free 9))))))
def N_bestCuts : List Str := ["bolts", "lengths", "best", "left", "row", "rest", "lost", "length", "place"]
theorem sc_bestCuts : FnScope N_bestCuts ["bolts", "lengths"] (defScope s_bestCuts) := ⟨rfl, rfl, rfl, by decide +kernel, rfl, by decide +kernel, by decide +kernel⟩
def L_bestCuts_b0 : En → M Fl := (ifS (tst1 (bin2 geI (bin2 itemO (getV 5) (getV 8)) (getV 7))) (exprS (bmE "list" (getV 3) (consA (tupV (consA (bin2 addA (getV 4) (tupV (consA (getV 8) nilA))) (consA (bin2 addA (bin2 addA (sliceE (getV 5) none (some (getV 8))) (tupV (consA (bin2 subI (bin2 itemO (getV 5) (getV 8)) (getV 7)) nilA))) (sliceE (getV 5) (some (bin2 addA (getV 8) (cst (.int 1)))) none)) nilA))) nilA) appM)) skip)
def L_bestCuts_b1 : En → M Fl := (seqS (asgS (bmE "list" (getV 3) nilA popM) (tupG 2 (consG (nameG 4) (consG (nameG 5) nilG)))) (seqS (ifS (tst1 (bin2 eqA (callE (consA (getV 4) nilA) lenC) (callE (consA (getV 1) nilA) lenC))) (seqS (setS 6 (genE (rng1 (callE (consA (getV 5) nilA) lenC)) [8] (nameG 8) (andT (tst1 (bin2 inO (getV 8) (getV 4))) (tst1 (bin2 ltA (bin2 itemO (getV 5) (getV 8)) (cst (.int 10))))) (bin2 itemO (getV 5) (getV 8)) chkSum finSum)) (seqS (setS 2 (ifV (orT (tst1 (bin2 isN (getV 2) (cst .non))) (tst1 (bin2 ltA (tupV (consA (getV 6) (consA (getV 4) nilA))) (getV 2)))) (tupV (consA (getV 6) (consA (getV 4) nilA))) (getV 2))) (fun σ => M.pure (Fl.ct σ)))) skip) (seqS (setS 7 (bin2 itemO (getV 1) (callE (consA (getV 4) nilA) lenC))) (forS (rng1 (callE (consA (getV 5) nilA) lenC)) (nameG 8) L_bestCuts_b0))))
def L_bestCuts_t0 : En → M Bool := (tst1 (bin2 neA (getV 3) (lstV nilA)))
def dn_bestCuts : En → M Fl := (seqS (ifS (orT (tst1 (bin2 gtI (callE (consA (getV 1) nilA) lenC) (cst (.int 7)))) (orT (tst1 (bin2 gtI (callE (consA (getV 0) nilA) lenC) (cst (.int 4)))) (tst1 (lockQ (locV 1) (genE (itSeq (getV 1)) [7] (nameG 7) yesT (bin2 ltA (getV 7) (cst (.int 1))) (chkB true) (finB false)))))) (fun _ => M.exc 0) skip) (seqS (parS 2 3 (consA (cst .non) (consA (lstO (consA (tupV (consA (tupV nilA) (consA (callE (consA (getV 0) nilA) tupC) nilA))) nilA)) nilA))) (seqS (whileM L_bestCuts_t0 L_bestCuts_b1 200000) (seqS (ifS (tst1 (bin2 isN (getV 2) (cst .non))) (fun _ => M.exc 0) skip) (retS (getV 2))))))
def D_bestCuts : List D → M D := freshD (bodyD 9 dn_bestCuts)
theorem b_bestCuts (e : E w h K mg base) : L2.Binds K (fdOf K d_bestCuts.at_) ["bolts", "lengths"] [] := e.binds 5 (d := d_bestCuts) rfl (fun _ _ _ _ _ _ us hl => match us, hl with | [_, _], _ => rfl) rfl
theorem ok_bestCuts {lp : Nat → Addr → Addr → HO → HO → Prop} (e : E w h K mg base) : FnD P w mg base (GG K lp) 4 (He.fAd K d_bestCuts.at_) (fdOf K d_bestCuts.at_) ["bolts", "lengths"] D_bestCuts :=
  fnD_fresh <| fnC_ok (G := GG K lp) (p := d_bestCuts.at_) (N := N_bestCuts) (k := 3) (fb := dn_bestCuts) (e.def_ 5 (d := d_bestCuts)) sc_bestCuts fun A outer s H E hr tk => by
  unfold dn_bestCuts
  exact (sss_cons (by exact (ss_if (sw_or (st_cmp od_gtI (se_callB (cd_len rfl) (e.free 4) (sa_cons (se_var 1) sa_nil)) se_int) (sw_or (st_cmp od_gtI (se_callB (cd_len rfl) (e.free 4) (sa_cons (se_var 0) sa_nil)) se_int) (sw_or1 (st_of (se_lockQ (locV 1) (se_genB (own := [("length", 7)]) (k := 2) ⟨hr, (e.tab 1).1, rfl, rfl, (e.tab 1).2.1, (e.tab 1).2.2, sc_bestCuts.nd, rfl⟩ (GSc.by (by kernel_rfl)) (si_seq rfl (se_var 1)) (use_any hr rfl rfl ⟨fun B0 s0 H0 cl0 C0 code0 fp0 hB0 => let hr1 := fun env => hB0.room (k := 2) (env := env) hr; ⟨by exact (sgc_name 7 sc_bestCuts.nd), by exact sts_nil, by exact (se_cmp (od_ltA rfl (hr1 _).units) (se_var 7) se_int)⟩⟩) (e.free 10))))))).pt (sss_one (by exact (ss_raise 0 rfl tk PySem.F.excBase_ValueError (e.exc 6).1 (e.glo 7) (e.exc 6).2.1 (raises_own (e.exc 6).2.2.1 (e.exc 6).2.2.2)))) sss_nil)) (sss_cons (by exact (ss_par 2 3 rfl sc_bestCuts.nd (sa_cons se_non (sa_cons (se_lstO (sa_cons (se_tup (sa_cons (se_tup sa_nil) (sa_cons (se_callTy (cd_tup rfl) (e.free 11) (sa_cons (se_var 0) sa_nil)) sa_nil))) sa_nil)) sa_nil)))) (sss_cons (by exact (ss_while (tb := L_bestCuts_t0) (b := L_bestCuts_b1) 200000 (passes_of rfl) (by unfold L_bestCuts_t0; exact (st_cmp (od_neA rfl hr.units) (se_var 3) (se_lstV sa_nil))) (by unfold L_bestCuts_b1; exact (sss_cons (by exact (ss_asg (se_bm0 PySem.F.plainAttrs_list PySem.F.slot_list_pop PySem.F.type_list_pop mt_popD (se_var 3)) (sg_tup 2 rfl rfl (sgs_cons (sg_name 4 sc_bestCuts.nd) (sgs_cons (sg_name 5 sc_bestCuts.nd) sgs_nil))))) (sss_cons (by exact (ss_if (st_cmp (od_eqA rfl hr.units) (se_callB (cd_len rfl) (e.free 4) (sa_cons (se_var 4) sa_nil)) (se_callB (cd_len rfl) (e.free 4) (sa_cons (se_var 1) sa_nil))) (sss_cons (by exact (ss_set 6 (se_genB (own := [("place", 8)]) (k := 2) ⟨hr, (e.tab 1).1, rfl, rfl, (e.tab 1).2.1, (e.tab 1).2.2, sc_bestCuts.nd, rfl⟩ (GSc.by (by kernel_rfl)) (si_range1 (e.free 12) (se_callB (cd_len rfl) (e.free 4) (sa_cons (se_var 5) sa_nil))) (use_sum hr rfl rfl ⟨fun B0 s0 H0 cl0 C0 code0 fp0 hB0 => let hr1 := fun env => hB0.room (k := 2) (env := env) hr; ⟨by exact (sgc_name 8 sc_bestCuts.nd), by exact (sts_one (sw_and (st_in rfl (hr1 _).units (se_var 8) (se_var 4)) (sw_and1 (st_cmp (od_ltA rfl (hr1 _).units) (se_item rfl (hu_of (hr1 _)) (se_var 5) (se_var 8)) se_int))).pt), by exact (se_item rfl (hu_of (hr1 _)) (se_var 5) (se_var 8))⟩⟩) (e.free 9)) sc_bestCuts.nd)) (sss_cons (by exact (ss_set 2 (se_if (sw_or (st_cmp od_isN (se_var 2) se_non) (sw_or1 (st_cmp (od_ltA rfl hr.units) (se_tup (sa_cons (se_var 6) (sa_cons (se_var 4) sa_nil))) (se_var 2)))).pt (se_tup (sa_cons (se_var 6) (sa_cons (se_var 4) sa_nil))) (se_var 2)) sc_bestCuts.nd)) (sss_one (by exact ss_cont)))) sss_nil)) (sss_cons (by exact (ss_set 7 (se_item rfl (hu_of hr) (se_var 1) (se_callB (cd_len rfl) (e.free 4) (sa_cons (se_var 4) sa_nil))) sc_bestCuts.nd)) (sss_one (by exact (ss_for (passes_of rfl) rfl (si_range1 (e.free 12) (se_callB (cd_len rfl) (e.free 4) (sa_cons (se_var 5) sa_nil))) (sg_name 8 sc_bestCuts.nd) (b := L_bestCuts_b0) (by unfold L_bestCuts_b0; exact (sss_one (by exact (ss_if (st_cmp od_geI (se_item rfl (hu_of hr) (se_var 5) (se_var 8)) (se_var 7)) (sss_one (by exact (ss_expr (se_bm PySem.F.plainAttrs_list PySem.F.slot_list_append PySem.F.type_list_append mt_app (se_var 3) (sa_cons (se_tup (sa_cons (se_op od_addA (se_var 4) (se_tup (sa_cons (se_var 8) sa_nil))) (sa_cons (se_op od_addA (se_op od_addA (se_slice rfl (se_var 5) sp_none (sp_some (se_var 8))) (se_tup (sa_cons (se_op od_subI (se_item rfl (hu_of hr) (se_var 5) (se_var 8)) (se_var 7)) sa_nil))) (se_slice rfl (se_var 5) (sp_some (se_op od_addA (se_var 8) se_int)) sp_none)) sa_nil))) sa_nil))))) sss_nil))))))))))))) (sss_cons (by exact (ss_if (st_cmp od_isN (se_var 2) se_non) (sss_one (by exact (ss_raise 0 rfl tk PySem.F.excBase_ValueError (e.exc 6).1 (e.glo 7) (e.exc 6).2.1 (raises_own (e.exc 6).2.2.1 (e.exc 6).2.2.2)))) sss_nil)) (sss_one (by exact (ss_ret (se_var 2))))))))
def N_laysFor : List Str := ["wanted", "most", "left", "found", "sizes", "layers", "size"]
theorem sc_laysFor : FnScope N_laysFor ["wanted", "most"] (defScope s_laysFor) := ⟨rfl, rfl, rfl, by decide +kernel, rfl, by decide +kernel, by decide +kernel⟩
def L_laysFor_b0 : En → M Fl := (augSubS subI (getV 2) (getV 6) (getV 5))
def L_laysFor_b1 : En → M Fl := (seqS (setS 4 (genE (itSeq (callE (consA (getV 2) nilA) (sortedA false))) [6] (nameG 6) (tst1 (bin2 gtI (bin2 itemO (getV 2) (getV 6)) (cst (.int 0)))) (getV 6) chkAll finTup)) (seqS (setS 5 (callE (consA (getV 1) (consA (lockQ (locV 4) (genE (itSeq (getV 4)) [6] (nameG 6) yesT (bin2 itemO (getV 2) (getV 6)) chkInt (finBest ltB))) nilA)) min2C)) (seqS (lockQ (locV 4) (forS (itSeq (getV 4)) (nameG 6) L_laysFor_b0)) (exprS (bmE "list" (getV 3) (consA (tupV (consA (getV 5) (consA (getV 4) nilA))) nilA) appM)))))
def L_laysFor_t0 : En → M Bool := (tst1 (lockQ (locV 2) (genE (itSeq (getV 2)) [6] (nameG 6) yesT (bin2 gtI (bin2 itemO (getV 2) (getV 6)) (cst (.int 0))) (chkB true) (finB false))))
def dn_laysFor : En → M Fl := (seqS (ifS (orT (tst1 (bin2 ltA (getV 1) (cst (.int 1)))) (tst1 (lockQ (locV 0) (genE (itSeq (getV 0)) [6] (nameG 6) yesT (bin2 ltA (bin2 itemO (getV 0) (getV 6)) (cst (.int 0))) (chkB true) (finB false))))) (fun _ => M.exc 0) skip) (seqS (asgS (tupV (consA (callE (consA (getV 0) nilA) dictC) (consA (lstO nilA) nilA))) (tupG 2 (consG (nameG 2) (consG (nameG 3) nilG)))) (seqS (whileM L_laysFor_t0 L_laysFor_b1 100000) (retS (callE (consA (getV 3) nilA) tupC)))))
def D_laysFor : List D → M D := freshD (bodyD 7 dn_laysFor)
theorem b_laysFor (e : E w h K mg base) : L2.Binds K (fdOf K d_laysFor.at_) ["wanted", "most"] [] := e.binds 6 (d := d_laysFor) rfl (fun _ _ _ _ _ _ us hl => match us, hl with | [_, _], _ => rfl) rfl
theorem ok_laysFor {lp : Nat → Addr → Addr → HO → HO → Prop} (e : E w h K mg base) : FnD P w mg base (GG K lp) 4 (He.fAd K d_laysFor.at_) (fdOf K d_laysFor.at_) ["wanted", "most"] D_laysFor :=
  fnD_fresh <| fnC_ok (G := GG K lp) (p := d_laysFor.at_) (N := N_laysFor) (k := 3) (fb := dn_laysFor) (e.def_ 6 (d := d_laysFor)) sc_laysFor fun A outer s H E hr tk => by
  unfold dn_laysFor
  exact (sss_cons (by exact (ss_if (sw_or (st_cmp (od_ltA rfl hr.units) (se_var 1) se_int) (sw_or1 (st_of (se_lockQ (locV 0) (se_genB (own := [("size", 6)]) (k := 2) ⟨hr, (e.tab 2).1, rfl, rfl, (e.tab 2).2.1, (e.tab 2).2.2, sc_laysFor.nd, rfl⟩ (GSc.by (by kernel_rfl)) (si_seq rfl (se_var 0)) (use_any hr rfl rfl ⟨fun B0 s0 H0 cl0 C0 code0 fp0 hB0 => let hr1 := fun env => hB0.room (k := 2) (env := env) hr; ⟨by exact (sgc_name 6 sc_laysFor.nd), by exact sts_nil, by exact (se_cmp (od_ltA rfl (hr1 _).units) (se_item rfl (hu_of (hr1 _)) (se_var 0) (se_var 6)) se_int)⟩⟩) (e.free 10)))))).pt (sss_one (by exact (ss_raise 0 rfl tk PySem.F.excBase_ValueError (e.exc 6).1 (e.glo 7) (e.exc 6).2.1 (raises_own (e.exc 6).2.2.1 (e.exc 6).2.2.2)))) sss_nil)) (sss_cons (by exact (ss_asg (se_tup (sa_cons (se_callTy (cd_dict rfl rfl) (e.free 13) (sa_cons (se_var 0) sa_nil)) (sa_cons (se_lstO sa_nil) sa_nil))) (sg_tup 2 rfl rfl (sgs_cons (sg_name 2 sc_laysFor.nd) (sgs_cons (sg_name 3 sc_laysFor.nd) sgs_nil))))) (sss_cons (by exact (ss_while (tb := L_laysFor_t0) (b := L_laysFor_b1) 100000 (passes_of rfl) (by unfold L_laysFor_t0; exact (st_of (se_lockQ (locV 2) (se_genB (own := [("size", 6)]) (k := 2) ⟨hr, (e.tab 2).1, rfl, rfl, (e.tab 2).2.1, (e.tab 2).2.2, sc_laysFor.nd, rfl⟩ (GSc.by (by kernel_rfl)) (si_seq rfl (se_var 2)) (use_any hr rfl rfl ⟨fun B0 s0 H0 cl0 C0 code0 fp0 hB0 => let hr1 := fun env => hB0.room (k := 2) (env := env) hr; ⟨by exact (sgc_name 6 sc_laysFor.nd), by exact sts_nil, by exact (se_cmp od_gtI (se_item rfl (hu_of (hr1 _)) (se_var 2) (se_var 6)) se_int)⟩⟩) (e.free 10))))) (by unfold L_laysFor_b1; exact (sss_cons (by exact (ss_set 4 (se_genTy (own := [("size", 6)]) (k := 2) ⟨hr, (e.tab 2).1, rfl, rfl, (e.tab 2).2.1, (e.tab 2).2.2, sc_laysFor.nd, rfl⟩ (GSc.by (by kernel_rfl)) (si_seq rfl (se_callB (cd_sortedA false rfl rfl hr.units) (e.free 14) (sa_cons (se_var 2) sa_nil))) (use_tuple hr rfl rfl ⟨fun B0 s0 H0 cl0 C0 code0 fp0 hB0 => let hr1 := fun env => hB0.room (k := 2) (env := env) hr; ⟨by exact (sgc_name 6 sc_laysFor.nd), by exact (sts_one (st_cmp od_gtI (se_item rfl (hu_of (hr1 _)) (se_var 2) (se_var 6)) se_int)), by exact (se_var 6)⟩⟩) (e.free 11)) sc_laysFor.nd)) (sss_cons (by exact (ss_set 5 (se_callB (cd_min2 rfl) (e.free 8) (sa_cons (se_var 1) (sa_cons (se_lockQ (locV 4) (se_genB (own := [("size", 6)]) (k := 2) ⟨hr, (e.tab 2).1, rfl, rfl, (e.tab 2).2.1, (e.tab 2).2.2, sc_laysFor.nd, rfl⟩ (GSc.by (by kernel_rfl)) (si_seq rfl (se_var 4)) (use_min hr rfl rfl ⟨fun B0 s0 H0 cl0 C0 code0 fp0 hB0 => let hr1 := fun env => hB0.room (k := 2) (env := env) hr; ⟨by exact (sgc_name 6 sc_laysFor.nd), by exact sts_nil, by exact (se_item rfl (hu_of (hr1 _)) (se_var 2) (se_var 6))⟩⟩) (e.free 8))) sa_nil))) sc_laysFor.nd)) (sss_cons (by exact (ss_lockQ (locV 4) (ss_for (passes_of rfl) rfl (si_seq rfl (se_var 4)) (sg_name 6 sc_laysFor.nd) (b := L_laysFor_b0) (by unfold L_laysFor_b0; exact (sss_one (by exact (ss_augSub (hu_of hr) od_isubI (se_var 2) (se_var 6) (se_var 5)))))))) (sss_one (by exact (ss_expr (se_bm PySem.F.plainAttrs_list PySem.F.slot_list_append PySem.F.type_list_append mt_app (se_var 3) (sa_cons (se_tup (sa_cons (se_var 5) (sa_cons (se_var 4) sa_nil))) sa_nil))))))))))) (sss_one (by exact (ss_ret (se_callTy (cd_tup rfl) (e.free 11) (sa_cons (se_var 3) sa_nil))))))))
def N_lawDice : List Str := ["cell"]
theorem sc_lawDice : FnScope N_lawDice ["cell"] (defScope s_lawDice) := ⟨rfl, rfl, rfl, by decide +kernel, rfl, by decide +kernel, by decide +kernel⟩
def dn_lawDice : En → M Fl := (seqS (ifS (tst1 (chainV ltA ltA (bin2 subI (cst (.int 0)) (cst (.int 10))) (getV 0) (cst (.int 10)))) (retS (lstO (consA (callE (consA (getV 0) nilA) absC) (consA (cst (.int 0)) (consA (cst (.int 2)) nilA))))) skip) (retS (lstO (consA (getV 0) (consA (bin2 addA (cst (.int 1)) (bin2 modI (callE (consA (getV 0) nilA) intC) (cst (.int 1009)))) (consA (callE (consA (bin2 geI (getV 0) (bin2 powI (cst (.int 10)) (cst (.int 18)))) nilA) intC) nilA))))))
def D_lawDice : List D → M D := bodyD 1 dn_lawDice
theorem b_lawDice (e : E w h K mg base) : L2.Binds K (fdOf K d_lawDice.at_) ["cell"] [] := e.binds 7 (d := d_lawDice) rfl (fun _ _ _ _ _ _ us hl => match us, hl with | [_], _ => rfl) rfl
theorem ok_lawDice {lp : Nat → Addr → Addr → HO → HO → Prop} (e : E w h K mg base) : FnD P w mg base (GG K lp) 3 (He.fAd K d_lawDice.at_) (fdOf K d_lawDice.at_) ["cell"] D_lawDice :=
  fnC_ok (G := GG K lp) (p := d_lawDice.at_) (N := N_lawDice) (k := 2) (fb := dn_lawDice) (e.def_ 7 (d := d_lawDice)) sc_lawDice fun A outer s H E hr tk => by
  unfold dn_lawDice
  exact (sss_cons (by exact (ss_if (st_chain (od_ltA rfl hr.units) (od_ltA rfl hr.units) (se_op od_subI se_int se_int) (se_var 0) se_int) (sss_one (by exact (ss_ret (se_lstO (sa_cons (se_callB cd_abs (e.free 15) (sa_cons (se_var 0) sa_nil)) (sa_cons se_int (sa_cons se_int sa_nil))))))) sss_nil)) (sss_one (by exact (ss_ret (se_lstO (sa_cons (se_var 0) (sa_cons (se_op od_addA se_int (se_op od_modI (se_callTy cd_int (e.free 16) (sa_cons (se_var 0) sa_nil)) se_int)) (sa_cons (se_callTy cd_int (e.free 16) (sa_cons (se_cmp od_geI (se_var 0) (se_op od_powI se_int se_int)) sa_nil)) sa_nil))))))))
def N_lawRoll : List Str := ["dice", "many", "found"]
theorem sc_lawRoll : FnScope N_lawRoll ["dice", "many"] (defScope s_lawRoll) := ⟨rfl, rfl, rfl, by decide +kernel, rfl, by decide +kernel, by decide +kernel⟩
def dn_lawRoll : En → M Fl := (seqS (ifS (orT (tst1 (bin2 eqA (bin2 itemO (getV 0) (cst (.int 2))) (cst (.int 2)))) (andT (tst1 (bin2 eqA (bin2 itemO (getV 0) (cst (.int 2))) (cst (.int 1)))) (tst1 (bin2 gtI (bin2 itemO (getV 0) (cst (.int 0))) (cst (.int 0)))))) (seqS (setS 2 (bin2 modI (callE (consA (bin2 itemO (getV 0) (cst (.int 0))) nilA) intC) (getV 1))) (seqS (asgS (bin2 fdvI (bin2 itemO (getV 0) (cst (.int 0))) (getV 1)) (subG (getV 0) (cst (.int 0)))) (retS (getV 2)))) skip) (seqS (asgS (cst (.int 0)) (subG (getV 0) (cst (.int 2)))) (seqS (ifS (tst1 (bin2 gtI (getV 1) (cst (.int 100000000)))) (retS (bin2 modI (callE (consA (bin2 addA (bin2 mulA (callE (consA (getV 0) (consA (bin2 addA (bin2 fdvI (getV 1) (cst (.int 100000000))) (cst (.int 1))) nilA)) (arg 2 (fun _ => M.stk))) (cst (.int 100000000))) (callE (consA (getV 0) (consA (cst (.int 100000000)) nilA)) (arg 2 (fun _ => M.stk)))) nilA) intC) (getV 1))) skip) (seqS (asgS (bin2 modI (callE (consA (bin2 addA (bin2 addA (bin2 mulA (bin2 itemO (getV 0) (cst (.int 0))) (cst (.int 48271))) (bin2 mulA (bin2 itemO (getV 0) (cst (.int 1))) (cst (.int 69621)))) (cst (.int 11))) nilA) intC) (cst (.int 2147483647))) (subG (getV 0) (cst (.int 0)))) (seqS (asgS (bin2 addA (bin2 itemO (getV 0) (cst (.int 1))) (cst (.int 1))) (subG (getV 0) (cst (.int 1)))) (retS (bin2 modI (callE (consA (bin2 fdvI (bin2 itemO (getV 0) (cst (.int 0))) (cst (.int 7))) nilA) intC) (getV 1))))))))
def D_lawRoll : List D → M D := bodyD 3 dn_lawRoll
theorem b_lawRoll (e : E w h K mg base) : L2.Binds K (fdOf K d_lawRoll.at_) ["dice", "many"] [] := e.binds 8 (d := d_lawRoll) rfl (fun _ _ _ _ _ _ us hl => match us, hl with | [_, _], _ => rfl) rfl
theorem ok_lawRoll {lp : Nat → Addr → Addr → HO → HO → Prop} (e : E w h K mg base) : FnD P w mg base (GG K lp) 3 (He.fAd K d_lawRoll.at_) (fdOf K d_lawRoll.at_) ["dice", "many"] D_lawRoll :=
  fnC_ok (G := GG K lp) (p := d_lawRoll.at_) (N := N_lawRoll) (k := 2) (fb := dn_lawRoll) (e.def_ 8 (d := d_lawRoll)) sc_lawRoll fun A outer s H E hr tk => by
  unfold dn_lawRoll
  exact (sss_cons (by exact (ss_if (sw_or (st_cmp (od_eqA rfl hr.units) (se_item rfl (hu_of hr) (se_var 0) se_int) se_int) (sw_or1 (sw_and (st_cmp (od_eqA rfl hr.units) (se_item rfl (hu_of hr) (se_var 0) se_int) se_int) (sw_and1 (st_cmp od_gtI (se_item rfl (hu_of hr) (se_var 0) se_int) se_int))).pt)).pt (sss_cons (by exact (ss_set 2 (se_op od_modI (se_callTy cd_int (e.free 16) (sa_cons (se_item rfl (hu_of hr) (se_var 0) se_int) sa_nil)) (se_var 1)) sc_lawRoll.nd)) (sss_cons (by exact (ss_asg (se_op od_fdvI (se_item rfl (hu_of hr) (se_var 0) se_int) (se_var 1)) (sg_sub (hu_of hr) (se_var 0) se_int))) (sss_one (by exact (ss_ret (se_var 2)))))) sss_nil)) (sss_cons (by exact (ss_asg se_int (sg_sub (hu_of hr) (se_var 0) se_int))) (sss_cons (by exact (ss_if (st_cmp od_gtI (se_var 1) se_int) (sss_one (by exact (ss_ret (se_op od_modI (se_callTy cd_int (e.free 16) (sa_cons (se_op od_addA (se_op od_mulA (se_call (k := 2) (fd := fdOf K d_lawRoll.at_) (ps := ["dice", "many"]) (fnD_stk (G := GG K lp)) (hr.mono (by decide)) (e.glo 17) (e.keep 8 (d := d_lawRoll)) (b_lawRoll e) tk (sa_cons (se_var 0) (sa_cons (se_op od_addA (se_op od_fdvI (se_var 1) se_int) se_int) sa_nil))) se_int) (se_call (k := 2) (fd := fdOf K d_lawRoll.at_) (ps := ["dice", "many"]) (fnD_stk (G := GG K lp)) (hr.mono (by decide)) (e.glo 17) (e.keep 8 (d := d_lawRoll)) (b_lawRoll e) tk (sa_cons (se_var 0) (sa_cons se_int sa_nil)))) sa_nil)) (se_var 1))))) sss_nil)) (sss_cons (by exact (ss_asg (se_op od_modI (se_callTy cd_int (e.free 16) (sa_cons (se_op od_addA (se_op od_addA (se_op od_mulA (se_item rfl (hu_of hr) (se_var 0) se_int) se_int) (se_op od_mulA (se_item rfl (hu_of hr) (se_var 0) se_int) se_int)) se_int) sa_nil)) se_int) (sg_sub (hu_of hr) (se_var 0) se_int))) (sss_cons (by exact (ss_asg (se_op od_addA (se_item rfl (hu_of hr) (se_var 0) se_int) se_int) (sg_sub (hu_of hr) (se_var 0) se_int))) (sss_one (by exact (ss_ret (se_op od_modI (se_callTy cd_int (e.free 16) (sa_cons (se_op od_fdvI (se_item rfl (hu_of hr) (se_var 0) se_int) se_int) sa_nil)) (se_var 1))))))))))
def N_lawRounds : List Str := ["script", "most", "cells", "cell"]
theorem sc_lawRounds : FnScope N_lawRounds ["script", "most"] (defScope s_lawRounds) := ⟨rfl, rfl, rfl, by decide +kernel, rfl, by decide +kernel, by decide +kernel⟩
def dn_lawRounds : En → M Fl := (seqS (setS 2 (sliceE (getV 0) none (some (getV 1)))) (seqS (ifS (tst1 (bin2 eqA (getV 2) (lstV nilA))) (setS 2 (lstV (consA (cst (.int 0)) nilA))) skip) (retS (lockQ (locV 2) (genE (itSeq (getV 2)) [3] (nameG 3) yesT (callE (consA (getV 3) nilA) (arg 1 D_lawDice)) chkAll finLst)))))
def D_lawRounds : List D → M D := bodyD 4 dn_lawRounds
theorem b_lawRounds (e : E w h K mg base) : L2.Binds K (fdOf K d_lawRounds.at_) ["script", "most"] [] := e.binds 9 (d := d_lawRounds) rfl (fun _ _ _ _ _ _ us hl => match us, hl with | [_, _], _ => rfl) rfl
theorem ok_lawRounds {lp : Nat → Addr → Addr → HO → HO → Prop} (e : E w h K mg base) : FnD P w mg base (GG K lp) 4 (He.fAd K d_lawRounds.at_) (fdOf K d_lawRounds.at_) ["script", "most"] D_lawRounds :=
  fnC_ok (G := GG K lp) (p := d_lawRounds.at_) (N := N_lawRounds) (k := 3) (fb := dn_lawRounds) (e.def_ 9 (d := d_lawRounds)) sc_lawRounds fun A outer s H E hr tk => by
  unfold dn_lawRounds
  exact (sss_cons (by exact (ss_set 2 (se_slice rfl (se_var 0) sp_none (sp_some (se_var 1))) sc_lawRounds.nd)) (sss_cons (by exact (ss_if (st_cmp (od_eqA rfl hr.units) (se_var 2) (se_lstV sa_nil)) (sss_one (by exact (ss_set 2 (se_lstV (sa_cons se_int sa_nil)) sc_lawRounds.nd))) sss_nil)) (sss_one (by exact (ss_ret (se_lockQ (locV 2) (se_lc (own := [("cell", 3)]) finLst rfl sc_lawRounds.nd finL_lst (si_seq rfl (se_var 2)) (blkOk_by (by kernel_rfl)) (.of fun s0 H0 C0 cl0 fp0 => ⟨by exact (sgc_name 3 sc_lawRounds.nd), by exact sts_nil, by exact (se_call (ok_lawDice e) (hr.mono (by decide)) (e.glo 18) (e.keep 7 (d := d_lawDice)) (b_lawDice e) takesN (sa_cons (se_var 3) sa_nil))⟩))))))))
def N_lawWays : List Str := ["bolts", "lengths", "found", "length", "fresh", "row", "rest", "k"]
theorem sc_lawWays : FnScope N_lawWays ["bolts", "lengths"] (defScope s_lawWays) := ⟨rfl, rfl, rfl, by decide +kernel, rfl, by decide +kernel, by decide +kernel⟩
def L_lawWays_b0 : En → M Fl := (setS 4 (bin2 addA (getV 4) (genE (rng1 (callE (consA (getV 6) nilA) lenC)) [7] (nameG 7) (tst1 (bin2 geI (bin2 itemO (getV 6) (getV 7)) (getV 3))) (tupV (consA (bin2 addA (getV 5) (tupV (consA (getV 7) nilA))) (consA (bin2 addA (bin2 addA (sliceE (getV 6) none (some (getV 7))) (tupV (consA (bin2 subI (bin2 itemO (getV 6) (getV 7)) (getV 3)) nilA))) (sliceE (getV 6) (some (bin2 addA (getV 7) (cst (.int 1)))) none)) nilA))) chkAll finLst)))
def L_lawWays_b1 : En → M Fl := (seqS (setS 4 (lstV nilA)) (seqS (lockQ (locV 2) (forS (itSeq (getV 2)) (tupG 2 (consG (nameG 5) (consG (nameG 6) nilG))) L_lawWays_b0)) (setS 2 (getV 4))))
def dn_lawWays : En → M Fl := (seqS (setS 2 (lstV (consA (tupV (consA (tupV nilA) (consA (callE (consA (getV 0) nilA) tupC) nilA))) nilA))) (seqS (lockQ (locV 1) (forS (itSeq (getV 1)) (nameG 3) L_lawWays_b1)) (retS (getV 2))))
def D_lawWays : List D → M D := bodyD 8 dn_lawWays
theorem b_lawWays (e : E w h K mg base) : L2.Binds K (fdOf K d_lawWays.at_) ["bolts", "lengths"] [] := e.binds 11 (d := d_lawWays) rfl (fun _ _ _ _ _ _ us hl => match us, hl with | [_, _], _ => rfl) rfl
theorem ok_lawWays {lp : Nat → Addr → Addr → HO → HO → Prop} (e : E w h K mg base) : FnD P w mg base (GG K lp) 3 (He.fAd K d_lawWays.at_) (fdOf K d_lawWays.at_) ["bolts", "lengths"] D_lawWays :=
  fnC_ok (G := GG K lp) (p := d_lawWays.at_) (N := N_lawWays) (k := 2) (fb := dn_lawWays) (e.def_ 11 (d := d_lawWays)) sc_lawWays fun A outer s H E hr tk => by
  unfold dn_lawWays
  exact (sss_cons (by exact (ss_set 2 (se_lstV (sa_cons (se_tup (sa_cons (se_tup sa_nil) (sa_cons (se_callTy (cd_tup rfl) (e.free 11) (sa_cons (se_var 0) sa_nil)) sa_nil))) sa_nil)) sc_lawWays.nd)) (sss_cons (by exact (ss_lockQ (locV 1) (ss_for (passes_of rfl) rfl (si_seq rfl (se_var 1)) (sg_name 3 sc_lawWays.nd) (b := L_lawWays_b1) (by unfold L_lawWays_b1; exact (sss_cons (by exact (ss_set 4 (se_lstV sa_nil) sc_lawWays.nd)) (sss_cons (by exact (ss_lockQ (locV 2) (ss_for (passes_of rfl) rfl (si_seq rfl (se_var 2)) (sg_tup 2 rfl rfl (sgs_cons (sg_name 5 sc_lawWays.nd) (sgs_cons (sg_name 6 sc_lawWays.nd) sgs_nil))) (b := L_lawWays_b0) (by unfold L_lawWays_b0; exact (sss_one (by exact (ss_set 4 (se_op od_addA (se_var 4) (se_lc (own := [("k", 7)]) finLst rfl sc_lawWays.nd finL_lst (si_range1 (e.free 12) (se_callB (cd_len rfl) (e.free 4) (sa_cons (se_var 6) sa_nil))) (blkOk_by (by kernel_rfl)) (.of fun s0 H0 C0 cl0 fp0 => ⟨by exact (sgc_name 7 sc_lawWays.nd), by exact (sts_one (st_cmp od_geI (se_item rfl (hu_of hr) (se_var 6) (se_var 7)) (se_var 3))), by exact (se_tup (sa_cons (se_op od_addA (se_var 5) (se_tup (sa_cons (se_var 7) sa_nil))) (sa_cons (se_op od_addA (se_op od_addA (se_slice rfl (se_var 6) sp_none (sp_some (se_var 7))) (se_tup (sa_cons (se_op od_subI (se_item rfl (hu_of hr) (se_var 6) (se_var 7)) (se_var 3)) sa_nil))) (se_slice rfl (se_var 6) (sp_some (se_op od_addA (se_var 7) se_int)) sp_none)) sa_nil)))⟩))) sc_lawWays.nd))))))) (sss_one (by exact (ss_set 2 (se_var 4) sc_lawWays.nd))))))))) (sss_one (by exact (ss_ret (se_var 2))))))
def N_law : List Str := ["script", "dice", "store", "own", "cuts", "rags", "came", "step", "name", "length", "good", "rows", "what", "left", "bolts", "lengths", "ways", "wanted", "most", "lays", "made", "due", "sizes", "layers", "k", "bad", "row", "rest", "size", "f", "one", "cut"]
theorem sc_law : FnScope N_law ["script"] (defScope s_law) := ⟨rfl, rfl, rfl, by decide +kernel, rfl, by decide +kernel, by decide +kernel⟩
def lams_bad : List LamT := lamsOf ((defBody s_law).getD 3 (.Pass ⟨0, 0, 0, 0⟩))
def lams_bad_f0 : En → M D := (methE 1 "add" (getV 2) (consA (cst (.str "z")) (consA (cst (.int 10)) nilA)) (arg 3 D_CupboardAdd))
def lams_bad_f1 : En → M D := (methE 1 "add" (callE nilA (makeO 1 (arg 1 D_CupboardInit))) (consA (cst (.str "a")) (consA (cst (.int 9)) nilA)) (arg 3 D_CupboardAdd))
def lams_bad_f2 : En → M D := (methE 1 "cut" (getV 2) (consA (cst (.str "x")) (consA (cst (.int 11)) nilA)) (arg 3 D_CupboardCut))
def lams_bad_f3 : En → M D := (methE 1 "cut" (getV 2) (consA (cst (.str "x")) (consA (cst (.int 0)) nilA)) (arg 3 D_CupboardCut))
def lams_bad_f4 : En → M D := (callE (consA (lstV (consA (cst (.int 5)) nilA)) (consA (lstV (consA (cst (.int 0)) nilA)) nilA)) (arg 2 D_bestCuts))
def lams_bad_f5 : En → M D := (callE (consA (lstV (consA (cst (.int 5)) nilA)) (consA (lstV (consA (cst (.int 6)) nilA)) nilA)) (arg 2 D_bestCuts))
def lams_bad_f6 : En → M D := (callE (consA (bin2 mulA (lstV (consA (cst (.int 99)) nilA)) (cst (.int 5))) (consA (lstV nilA) nilA)) (arg 2 D_bestCuts))
def lams_bad_f7 : En → M D := (callE (consA (lstV (consA (cst (.int 99)) nilA)) (consA (bin2 mulA (lstV (consA (cst (.int 1)) nilA)) (cst (.int 8))) nilA)) (arg 2 D_bestCuts))
def lams_bad_f8 : En → M D := (callE (consA (newDV false) (consA (cst (.int 0)) nilA)) (arg 2 D_laysFor))
def lams_bad_f9 : En → M D := (callE (consA (dispE (((cst (.str "a")), (negV (cst (.int 1)))) :: [])) (consA (cst (.int 1)) nilA)) (arg 2 D_laysFor))
def lams_bad_fbs : List (En → M D) := [lams_bad_f0, lams_bad_f1, lams_bad_f2, lams_bad_f3, lams_bad_f4, lams_bad_f5, lams_bad_f6, lams_bad_f7, lams_bad_f8, lams_bad_f9]
theorem lams_bad_mp {lp : Nat → Addr → Addr → HO → HO → Prop} (e : E w h K mg base) {A : Around} {outer : List Env} {s : Shared} {H : Hp} {E : XK} : MPcs (cxOf (L2.CX P w) P w K mg base N_law "law" (defScope s_law) (He.fAd K d_law.at_) (.ref (He.codeOf K d_law.at_)) A outer s H E) (GG K lp) 4 lams_bad lams_bad_fbs := mpcs_of (by unfold lams_bad_fbs; exact (.cons ⟨by unfold lams_bad_f0; exact ⟨fun A0 outer0 s0 H0 E0 f0 c0 hr1 tk1 => by exact (se_meth 1 (e.cls 0) (e.meth 19) (ok_CupboardAdd e) (hr1.mono (by decide)) (b_CupboardAdd e) tk1 (se_var 2) (sa_cons se_str (sa_cons se_int sa_nil)))⟩, lamS_by (by kernel_rfl), fun _ _ _ _ _ => rfl⟩ (.cons ⟨by unfold lams_bad_f1; exact ⟨fun A0 outer0 s0 H0 E0 f0 c0 hr1 tk1 => by exact (se_meth 1 (e.cls 0) (e.meth 19) (ok_CupboardAdd e) (hr1.mono (by decide)) (b_CupboardAdd e) tk1 (se_make0 1 (e.mkr 20) (ok_CupboardInit e) (hr1.mono (by decide)) (e.glo 21) (b_CupboardInit e) tk1) (sa_cons se_str (sa_cons se_int sa_nil)))⟩, lamS_by (by kernel_rfl), fun _ _ _ _ _ => rfl⟩ (.cons ⟨by unfold lams_bad_f2; exact ⟨fun A0 outer0 s0 H0 E0 f0 c0 hr1 tk1 => by exact (se_meth 1 (e.cls 0) (e.meth 22) (ok_CupboardCut e) (hr1.mono (by decide)) (b_CupboardCut e) tk1 (se_var 2) (sa_cons se_str (sa_cons se_int sa_nil)))⟩, lamS_by (by kernel_rfl), fun _ _ _ _ _ => rfl⟩ (.cons ⟨by unfold lams_bad_f3; exact ⟨fun A0 outer0 s0 H0 E0 f0 c0 hr1 tk1 => by exact (se_meth 1 (e.cls 0) (e.meth 22) (ok_CupboardCut e) (hr1.mono (by decide)) (b_CupboardCut e) tk1 (se_var 2) (sa_cons se_str (sa_cons se_int sa_nil)))⟩, lamS_by (by kernel_rfl), fun _ _ _ _ _ => rfl⟩ (.cons ⟨by unfold lams_bad_f4; exact ⟨fun A0 outer0 s0 H0 E0 f0 c0 hr1 tk1 => by exact (se_call (ok_bestCuts e) (hr1.mono (by decide)) (e.glo 23) (e.keep 5 (d := d_bestCuts)) (b_bestCuts e) tk1 (sa_cons (se_lstV (sa_cons se_int sa_nil)) (sa_cons (se_lstV (sa_cons se_int sa_nil)) sa_nil)))⟩, lamS_by (by kernel_rfl), fun _ _ _ _ _ => rfl⟩ (.cons ⟨by unfold lams_bad_f5; exact ⟨fun A0 outer0 s0 H0 E0 f0 c0 hr1 tk1 => by exact (se_call (ok_bestCuts e) (hr1.mono (by decide)) (e.glo 23) (e.keep 5 (d := d_bestCuts)) (b_bestCuts e) tk1 (sa_cons (se_lstV (sa_cons se_int sa_nil)) (sa_cons (se_lstV (sa_cons se_int sa_nil)) sa_nil)))⟩, lamS_by (by kernel_rfl), fun _ _ _ _ _ => rfl⟩ (.cons ⟨by unfold lams_bad_f6; exact ⟨fun A0 outer0 s0 H0 E0 f0 c0 hr1 tk1 => by exact (se_call (ok_bestCuts e) (hr1.mono (by decide)) (e.glo 23) (e.keep 5 (d := d_bestCuts)) (b_bestCuts e) tk1 (sa_cons (se_op od_mulA (se_lstV (sa_cons se_int sa_nil)) se_int) (sa_cons (se_lstV sa_nil) sa_nil)))⟩, lamS_by (by kernel_rfl), fun _ _ _ _ _ => rfl⟩ (.cons ⟨by unfold lams_bad_f7; exact ⟨fun A0 outer0 s0 H0 E0 f0 c0 hr1 tk1 => by exact (se_call (ok_bestCuts e) (hr1.mono (by decide)) (e.glo 23) (e.keep 5 (d := d_bestCuts)) (b_bestCuts e) tk1 (sa_cons (se_lstV (sa_cons se_int sa_nil)) (sa_cons (se_op od_mulA (se_lstV (sa_cons se_int sa_nil)) se_int) sa_nil)))⟩, lamS_by (by kernel_rfl), fun _ _ _ _ _ => rfl⟩ (.cons ⟨by unfold lams_bad_f8; exact ⟨fun A0 outer0 s0 H0 E0 f0 c0 hr1 tk1 => by exact (se_call (ok_laysFor e) (hr1.mono (by decide)) (e.glo 24) (e.keep 6 (d := d_laysFor)) (b_laysFor e) tk1 (sa_cons (se_dnewV false) (sa_cons se_int sa_nil)))⟩, lamS_by (by kernel_rfl), fun _ _ _ _ _ => rfl⟩ (.cons ⟨by unfold lams_bad_f9; exact ⟨fun A0 outer0 s0 H0 E0 f0 c0 hr1 tk1 => by exact (se_call (ok_laysFor e) (hr1.mono (by decide)) (e.glo 24) (e.keep 6 (d := d_laysFor)) (b_laysFor e) tk1 (sa_cons (se_disp (fps := (((cst (.str "a")), (negV (cst (.int 1)))) :: [])) (pps_cons se_str (se_neg se_int) pps_nil)) (sa_cons se_int sa_nil)))⟩, lamS_by (by kernel_rfl), fun _ _ _ _ _ => rfl⟩ .nil)))))))))))
def L_law_b0 : En → M Fl := (seqS (asgS (tupV (consA (bin2 addA (cst (.str "b")) (callE (consA (callE (consA (getV 1) (consA (cst (.int 8)) nilA)) (arg 2 D_lawRoll)) nilA) strC)) (consA (callE (consA (getV 1) (consA (cst (.int 90)) nilA)) (arg 2 D_lawRoll)) nilA))) (tupG 2 (consG (nameG 8) (consG (nameG 9) nilG)))) (seqS (ifS (tst1 (bin2 eqA (callE (consA (getV 1) (consA (cst (.int 3)) nilA)) (arg 2 D_lawRoll)) (cst (.int 0)))) (seqS (setS 10 (andV (bin2 notinO (getV 8) (getV 3)) (bin2 gtI (getV 9) (cst (.int 9))))) (seqS (ifS (tst1 (bin2 eqA (bin2 eqA (toldE okc "BoltError" (methE 1 "add" (getV 2) (consA (getV 8) (consA (getV 9) nilA)) (arg 3 D_CupboardAdd))) (cst (.str "BoltError"))) (getV 10))) (retS (cst (.bl false))) skip) (asgS (tupV (consA (dictV (consA (bin2 addA (itemsE (getV 3)) (bin2 mulA (lstV (consA (tupV (consA (getV 8) (consA (getV 9) nilA))) nilA)) (callE (consA (getV 10) nilA) intC))) nilA)) (consA (bin2 addA (getV 6) (bin2 mulA (getV 9) (callE (consA (getV 10) nilA) intC))) nilA))) (tupG 2 (consG (nameG 3) (consG (nameG 6) nilG)))))) (seqS (setS 11 (callE (consA (lockQ (locV 3) (genE (itSeq (getV 3)) [30] (nameG 30) (tst1 (bin2 geI (bin2 itemO (getV 3) (getV 30)) (getV 9))) (tupV (consA (bin2 itemO (getV 3) (getV 30)) (consA (getV 30) nilA))) chkAll finLst)) nilA) (sortedA false))) (seqS (setS 10 (andV (bin2 gtI (getV 9) (cst (.int 0))) (bin2 neA (getV 11) (lstV nilA)))) (seqS (setS 12 (bin2 addA (cst (.str "g")) (callE (consA (bin2 modI (getV 7) (cst (.int 3))) nilA) strC))) (seqS (ifS (tst1 (bin2 neA (toldE okc "BoltError" (methE 1 "cut" (getV 2) (consA (getV 12) (consA (getV 9) nilA)) (arg 3 D_CupboardCut))) (ifV (tst1 (getV 10)) (bin2 itemO (bin2 itemO (getV 11) (cst (.int 0))) (cst (.int 1))) (cst (.str "BoltError"))))) (retS (cst (.bl false))) skip) (ifS (tst1 (getV 10)) (seqS (setS 13 (bin2 subI (bin2 itemO (bin2 itemO (getV 11) (cst (.int 0))) (cst (.int 0))) (getV 9))) (seqS (parS 4 5 (consA (bin2 addA (getV 4) (lstV (consA (tupV (consA (bin2 itemO (bin2 itemO (getV 11) (cst (.int 0))) (cst (.int 1))) (consA (getV 12) (consA (getV 9) nilA)))) nilA))) (consA (bin2 addA (getV 5) (bin2 mulA (getV 13) (callE (consA (bin2 ltA (getV 13) (cst (.int 10))) nilA) intC))) nilA))) (setS 3 (dictV (consA (lockQ (locV 3) (genE (itSeq (getV 3)) [30] (nameG 30) (orT (tst1 (bin2 neA (getV 30) (bin2 itemO (bin2 itemO (getV 11) (cst (.int 0))) (cst (.int 1))))) (tst1 (bin2 gtI (getV 13) (cst (.int 9))))) (tupV (consA (getV 30) (consA (ifV (tst1 (bin2 eqA (getV 30) (bin2 itemO (bin2 itemO (getV 11) (cst (.int 0))) (cst (.int 1))))) (getV 13) (bin2 itemO (getV 3) (getV 30))) nilA))) chkAll finLst)) nilA))))) skip)))))) (ifS (orT (tst1 (bin2 neA (fldE 1 "bolts" (getV 2)) (getV 3))) (orT (tst1 (bin2 neA (fldE 1 "cuts" (getV 2)) (getV 4))) (orT (tst1 (bin2 neA (fldE 1 "rags" (getV 2)) (getV 5))) (orT (tst1 (bin2 neA (getV 6) (bin2 addA (bin2 addA (methE 1 "whole" (getV 2) nilA (arg 1 D_CupboardWhole)) (getV 5)) (callE (consA (lockQ (locV 4) (genE (itSeq (getV 4)) [31] (nameG 31) yesT (bin2 itemO (getV 31) (cst (.int 2))) chkAll finLst)) nilA) sumC)))) (tst1 (bin2 neA (methE 1 "cut_for" (getV 2) (consA (cst (.str "g1")) nilA) (arg 2 D_CupboardCutFor)) (callE (consA (lockQ (locV 4) (genE (itSeq (getV 4)) [31] (nameG 31) (tst1 (bin2 eqA (bin2 itemO (getV 31) (cst (.int 1))) (cst (.str "g1")))) (bin2 itemO (getV 31) (cst (.int 2))) chkAll finLst)) nilA) sumC))))))) (retS (cst (.bl false))) skip)))
def L_law_b1 : En → M Fl := (seqS (setS 22 (callE (consA (callE (consA (lockQ (locV 13) (genE (itSeq (getV 13)) [28] (nameG 28) (tst1 (bin2 gtI (bin2 itemO (getV 13) (getV 28)) (cst (.int 0)))) (getV 28) chkAll finLst)) nilA) (sortedA false)) nilA) tupC)) (seqS (setS 23 (callE (consA (bin2 addA (lstV (consA (getV 18) nilA)) (lockQ (locV 22) (genE (itSeq (getV 22)) [28] (nameG 28) yesT (bin2 itemO (getV 13) (getV 28)) chkAll finLst))) nilA) (bestC PySem.W.dataLt))) (asgS (tupV (consA (bin2 addA (getV 21) (lstV (consA (tupV (consA (getV 23) (consA (getV 22) nilA))) nilA))) (consA (dictV (consA (lockQ (locV 13) (genE (itSeq (getV 13)) [28] (nameG 28) yesT (tupV (consA (getV 28) (consA (bin2 subI (bin2 itemO (getV 13) (getV 28)) (bin2 mulA (getV 23) (callE (consA (bin2 inO (getV 28) (getV 22)) nilA) intC))) nilA))) chkAll finLst)) nilA)) nilA))) (tupG 2 (consG (nameG 21) (consG (nameG 13) nilG))))))
def L_law_t0 : En → M Bool := (tst1 (bin2 neA (lockQ (locV 13) (genE (itSeq (getV 13)) [28] (nameG 28) (tst1 (bin2 gtI (bin2 itemO (getV 13) (getV 28)) (cst (.int 0)))) (getV 28) chkAll finLst)) (lstV nilA)))
def L_law_b2 : En → M Fl := (setS 20 (dictV (consA (lockQ (locV 20) (genE (itSeq (getV 20)) [28] (nameG 28) yesT (tupV (consA (getV 28) (consA (bin2 addA (bin2 itemO (getV 20) (getV 28)) (bin2 mulA (getV 23) (callE (consA (bin2 inO (getV 28) (getV 22)) nilA) intC))) nilA))) chkAll finLst)) nilA)))
def L_law_b3 : En → M Fl := (seqS (asgS (tupV (consA (callE nilA (makeO 1 (arg 1 D_CupboardInit))) (consA (newDV false) (consA (lstV nilA) (consA (cst (.int 0)) (consA (cst (.int 0)) nilA)))))) (tupG 5 (consG (nameG 2) (consG (nameG 3) (consG (nameG 4) (consG (nameG 5) (consG (nameG 6) nilG))))))) (seqS (forS (rng1 (callE (consA (getV 1) (consA (cst (.int 31)) nilA)) (arg 2 D_lawRoll))) (nameG 7) L_law_b0) (seqS (asgS (tupV (consA (genE (rng1 (bin2 addA (cst (.int 1)) (callE (consA (getV 1) (consA (cst (.int 3)) nilA)) (arg 2 D_lawRoll)))) [24] (nameG 24) yesT (callE (consA (getV 1) (consA (cst (.int 60)) nilA)) (arg 2 D_lawRoll)) chkAll finLst) (consA (genE (rng1 (callE (consA (getV 1) (consA (cst (.int 6)) nilA)) (arg 2 D_lawRoll))) [24] (nameG 24) yesT (bin2 addA (cst (.int 1)) (callE (consA (getV 1) (consA (cst (.int 25)) nilA)) (arg 2 D_lawRoll))) chkAll finLst) nilA))) (tupG 2 (consG (nameG 14) (consG (nameG 15) nilG)))) (seqS (setS 16 (callE (consA (genE (itSeq (callE (consA (getV 14) (consA (getV 15) nilA)) (arg 2 D_lawWays))) [26, 27] (tupG 2 (consG (nameG 26) (consG (nameG 27) nilG))) yesT (tupV (consA (callE (consA (genE (rng1 (callE (consA (getV 27) nilA) lenC)) [24] (nameG 24) (andT (tst1 (bin2 inO (getV 24) (getV 26))) (tst1 (bin2 ltA (bin2 itemO (getV 27) (getV 24)) (cst (.int 10))))) (bin2 itemO (getV 27) (getV 24)) chkAll finLst) nilA) sumC) (consA (getV 26) nilA))) chkAll finLst) nilA) (sortedA false))) (seqS (ifS (tst1 (bin2 neA (toldE okc "BoltError" (callE (consA (getV 14) (consA (getV 15) nilA)) (arg 2 D_bestCuts))) (ifV (tst1 (bin2 neA (getV 16) (lstV nilA))) (bin2 itemO (getV 16) (cst (.int 0))) (cst (.str "BoltError"))))) (retS (cst (.bl false))) skip) (seqS (asgS (tupV (consA (dictV (consA (genE (rng1 (callE (consA (getV 1) (consA (cst (.int 5)) nilA)) (arg 2 D_lawRoll))) [24] (nameG 24) yesT (tupV (consA (bin2 addA (cst (.str "s")) (callE (consA (getV 24) nilA) strC)) (consA (callE (consA (getV 1) (consA (cst (.int 12)) nilA)) (arg 2 D_lawRoll)) nilA))) chkAll finLst) nilA)) (consA (bin2 addA (cst (.int 1)) (callE (consA (getV 1) (consA (cst (.int 6)) nilA)) (arg 2 D_lawRoll))) nilA))) (tupG 2 (consG (nameG 17) (consG (nameG 18) nilG)))) (seqS (setS 19 (toldE okc "BoltError" (callE (consA (getV 17) (consA (getV 18) nilA)) (arg 2 D_laysFor)))) (seqS (asgS (tupV (consA (dictV (consA (lockQ (locV 17) (genE (itSeq (getV 17)) [28] (nameG 28) yesT (tupV (consA (getV 28) (consA (cst (.int 0)) nilA))) chkAll finLst)) nilA)) (consA (dictV (consA (itemsE (getV 17)) nilA)) (consA (lstV nilA) nilA)))) (tupG 3 (consG (nameG 20) (consG (nameG 13) (consG (nameG 21) nilG))))) (seqS (whileM L_law_t0 L_law_b1 100000) (seqS (lockQ (locV 19) (forS (itSeq (getV 19)) (tupG 2 (consG (nameG 23) (consG (nameG 22) nilG))) L_law_b2)) (ifS (orT (tst1 (bin2 neA (getV 20) (getV 17))) (tst1 (bin2 neA (callE (consA (getV 19) nilA) (listC false)) (getV 21)))) (retS (cst (.bl false))) skip)))))))))))
def L_law_b4 : En → M Fl := (exprS (methE 1 "add" (getV 2) (consA (bin2 addA (cst (.str "q")) (callE (consA (getV 24) nilA) strC)) (consA (cst (.int 10)) nilA)) (arg 3 D_CupboardAdd)))
def L_law_tail0 : En → M Fl := (seqS (setS 2 (callE nilA (makeO 1 (arg 1 D_CupboardInit)))) (seqS (forS (rng1 (cst (.int 20))) (nameG 24) L_law_b4) (seqS (setS 25 (lstV (consA (fun _ => M.pure (.lam 0)) (consA (fun _ => M.pure (.lam 1)) (consA (fun _ => M.pure (.lam 2)) (consA (fun _ => M.pure (.lam 3)) (consA (fun _ => M.pure (.lam 4)) (consA (fun _ => M.pure (.lam 5)) (consA (fun _ => M.pure (.lam 6)) (consA (fun _ => M.pure (.lam 7)) (consA (fun _ => M.pure (.lam 8)) (consA (fun _ => M.pure (.lam 9)) nilA)))))))))))) (retS (andV (bin2 eqA (lockQ (locV 25) (genE (itSeq (getV 25)) [29] (nameG 29) (tst1 (bin2 neA (toldV okc "BoltError" [29] 29 lams_bad_fbs) (cst (.str "BoltError")))) (cst (.int 1)) chkAll finLst)) (lstV nilA)) (andV (bin2 eqA (cst (.int 20)) (cst (.int 20))) (andV (bin2 eqA (methE 1 "cut" (getV 2) (consA (cst (.str "coat")) (consA (cst (.int 4)) nilA)) (arg 3 D_CupboardCut)) (cst (.str "q0"))) (andV (bin2 eqA (fldE 1 "rags" (getV 2)) (cst (.int 6))) (andV (bin2 eqA (callE (consA (lstV (consA (cst (.int 30)) (consA (cst (.int 20)) nilA))) (consA (lstV (consA (cst (.int 20)) nilA)) nilA)) (arg 2 D_bestCuts)) (tupV (consA (cst (.int 0)) (consA (tupV (consA (cst (.int 0)) nilA)) nilA)))) (andV (bin2 eqA (callE (consA (lstV (consA (cst (.int 25)) (consA (cst (.int 20)) nilA))) (consA (lstV (consA (cst (.int 20)) nilA)) nilA)) (arg 2 D_bestCuts)) (tupV (consA (cst (.int 0)) (consA (tupV (consA (cst (.int 1)) nilA)) nilA)))) (bin2 eqA (callE (consA (dispE (((cst (.str "a")), (cst (.int 3))) :: (((cst (.str "b")), (cst (.int 1))) :: []))) (consA (cst (.int 9)) nilA)) (arg 2 D_laysFor)) (tupV (consA (tupV (consA (cst (.int 1)) (consA (tupV (consA (cst (.str "a")) (consA (cst (.str "b")) nilA))) nilA))) (consA (tupV (consA (cst (.int 2)) (consA (tupV (consA (cst (.str "a")) nilA)) nilA))) nilA))))))))))))))
def dn_law : En → M Fl := (seqS (forS (itSeq (callE (consA (getV 0) (consA (cst (.int 1)) nilA)) (arg 2 D_lawRounds))) (nameG 1) L_law_b3) (freshS L_law_tail0))
def D_law : List D → M D := bodyD 32 dn_law
theorem b_law (e : E w h K mg base) : L2.Binds K (fdOf K d_law.at_) ["script"] [] := e.binds 12 (d := d_law) rfl (fun _ _ _ _ _ _ us hl => match us, hl with | [_], _ => rfl) rfl
theorem ok_law_body (e : E w h K mg base) (A : Around) (outer : List Env) (s : Shared) (H : Hp) (E : XK) (hr : Room 6 (A.deeper (envOfC "law" (defScope s_law) s.heap.objs.size (He.fAd K d_law.at_) (.ref (He.codeOf K d_law.at_))))) (tk : TakesD (cxOf (L2.CX P w) P w K mg base N_law "law" (defScope s_law) (He.fAd K d_law.at_) (.ref (He.codeOf K d_law.at_)) A outer s H E) E) : SSs (cxOf (L2.CX P w) P w K mg base N_law "law" (defScope s_law) (He.fAd K d_law.at_) (.ref (He.codeOf K d_law.at_)) A outer s H E) (GG K (lamPX (("law" : Str) ++ ".<locals>.") (cellsFrom (s.heap.objs.size + 1) (defScope s_law).names []) lams_bad)) E (defBody s_law) dn_law := by
  unfold dn_law
  exact (sss_cons (by exact (ss_for (passes_of rfl) rfl (si_seq rfl (se_call (ok_lawRounds e) (hr.mono (by decide)) (e.glo 25) (e.keep 9 (d := d_lawRounds)) (b_lawRounds e) tk (sa_cons (se_var 0) (sa_cons se_int sa_nil)))) (sg_name 1 sc_law.nd) (b := L_law_b3) (by unfold L_law_b3; exact (sss_cons (by exact (ss_asg (se_tup (sa_cons (se_make0 1 (e.mkr 20) (ok_CupboardInit e) (hr.mono (by decide)) (e.glo 21) (b_CupboardInit e) tk) (sa_cons (se_dnewV false) (sa_cons (se_lstV sa_nil) (sa_cons se_int (sa_cons se_int sa_nil)))))) (sg_tup 5 rfl rfl (sgs_cons (sg_name 2 sc_law.nd) (sgs_cons (sg_name 3 sc_law.nd) (sgs_cons (sg_name 4 sc_law.nd) (sgs_cons (sg_name 5 sc_law.nd) (sgs_cons (sg_name 6 sc_law.nd) sgs_nil)))))))) (sss_cons (by exact (ss_for (passes_of rfl) rfl (si_range1 (e.free 12) (se_call (ok_lawRoll e) (hr.mono (by decide)) (e.glo 17) (e.keep 8 (d := d_lawRoll)) (b_lawRoll e) tk (sa_cons (se_var 1) (sa_cons se_int sa_nil)))) (sg_name 7 sc_law.nd) (b := L_law_b0) (by unfold L_law_b0; exact (sss_cons (by exact (ss_asg (se_tup (sa_cons (se_op od_addA se_str (se_callTy cd_str (e.free 26) (sa_cons (se_call (ok_lawRoll e) (hr.mono (by decide)) (e.glo 17) (e.keep 8 (d := d_lawRoll)) (b_lawRoll e) tk (sa_cons (se_var 1) (sa_cons se_int sa_nil))) sa_nil))) (sa_cons (se_call (ok_lawRoll e) (hr.mono (by decide)) (e.glo 17) (e.keep 8 (d := d_lawRoll)) (b_lawRoll e) tk (sa_cons (se_var 1) (sa_cons se_int sa_nil))) sa_nil))) (sg_tup 2 rfl rfl (sgs_cons (sg_name 8 sc_law.nd) (sgs_cons (sg_name 9 sc_law.nd) sgs_nil))))) (sss_cons (by exact (ss_if (st_cmp (od_eqA rfl hr.units) (se_call (ok_lawRoll e) (hr.mono (by decide)) (e.glo 17) (e.keep 8 (d := d_lawRoll)) (b_lawRoll e) tk (sa_cons (se_var 1) (sa_cons se_int sa_nil))) se_int) (sss_cons (by exact (ss_set 10 (se_and (se_notin rfl hr.units (se_var 8) (se_var 3)) (se_one (se_cmp od_gtI (se_var 9) se_int))) sc_law.nd)) (sss_cons (by exact (ss_if (st_cmp (od_eqA rfl hr.units) (se_cmp (od_eqA rfl hr.units) (se_toldE 4 (told e) rfl (e.tab 3).1 rfl (e.tab 3).2.1 (e.tab 3).2.2 hr (lamS_by (by kernel_rfl)) (hexc e) ⟨fun A0 outer0 s0 H0 E0 f0 c0 hr1 tk1 => by exact (se_meth 1 (e.cls 0) (e.meth 19) (ok_CupboardAdd e) (hr1.mono (by decide)) (b_CupboardAdd e) tk1 (se_var 2) (sa_cons (se_var 8) (sa_cons (se_var 9) sa_nil)))⟩) se_str) (se_var 10)) (sss_one (by exact (ss_ret se_bl))) sss_nil)) (sss_one (by exact (ss_asg (se_tup (sa_cons (se_dictV rfl rfl (e.free 13) (sa_cons (se_op od_addA (se_items rfl (e.free 27) (se_var 3)) (se_op od_mulA (se_lstV (sa_cons (se_tup (sa_cons (se_var 8) (sa_cons (se_var 9) sa_nil))) sa_nil)) (se_callTy cd_int (e.free 16) (sa_cons (se_var 10) sa_nil)))) sa_nil)) (sa_cons (se_op od_addA (se_var 6) (se_op od_mulA (se_var 9) (se_callTy cd_int (e.free 16) (sa_cons (se_var 10) sa_nil)))) sa_nil))) (sg_tup 2 rfl rfl (sgs_cons (sg_name 3 sc_law.nd) (sgs_cons (sg_name 6 sc_law.nd) sgs_nil)))))))) (sss_cons (by exact (ss_set 11 (se_callB (cd_sortedA false rfl rfl hr.units) (e.free 14) (sa_cons (se_lockQ (locV 3) (se_lc (own := [("one", 30)]) finLst rfl sc_law.nd finL_lst (si_seq rfl (se_var 3)) (blkOk_by (by kernel_rfl)) (.of fun s0 H0 C0 cl0 fp0 => ⟨by exact (sgc_name 30 sc_law.nd), by exact (sts_one (st_cmp od_geI (se_item rfl (hu_of hr) (se_var 3) (se_var 30)) (se_var 9))), by exact (se_tup (sa_cons (se_item rfl (hu_of hr) (se_var 3) (se_var 30)) (sa_cons (se_var 30) sa_nil)))⟩))) sa_nil)) sc_law.nd)) (sss_cons (by exact (ss_set 10 (se_and (se_cmp od_gtI (se_var 9) se_int) (se_one (se_cmp (od_neA rfl hr.units) (se_var 11) (se_lstV sa_nil)))) sc_law.nd)) (sss_cons (by exact (ss_set 12 (se_op od_addA se_str (se_callTy cd_str (e.free 26) (sa_cons (se_op od_modI (se_var 7) se_int) sa_nil))) sc_law.nd)) (sss_cons (by exact (ss_if (st_cmp (od_neA rfl hr.units) (se_toldE 4 (told e) rfl (e.tab 3).1 rfl (e.tab 3).2.1 (e.tab 3).2.2 hr (lamS_by (by kernel_rfl)) (hexc e) ⟨fun A0 outer0 s0 H0 E0 f0 c0 hr1 tk1 => by exact (se_meth 1 (e.cls 0) (e.meth 22) (ok_CupboardCut e) (hr1.mono (by decide)) (b_CupboardCut e) tk1 (se_var 2) (sa_cons (se_var 12) (sa_cons (se_var 9) sa_nil)))⟩) (se_if (st_of (se_var 10)) (se_item rfl (hu_of hr) (se_item rfl (hu_of hr) (se_var 11) se_int) se_int) se_str)) (sss_one (by exact (ss_ret se_bl))) sss_nil)) (sss_one (by exact (ss_if (st_of (se_var 10)) (sss_cons (by exact (ss_set 13 (se_op od_subI (se_item rfl (hu_of hr) (se_item rfl (hu_of hr) (se_var 11) se_int) se_int) (se_var 9)) sc_law.nd)) (sss_cons (by exact (ss_par 4 5 rfl sc_law.nd (sa_cons (se_op od_addA (se_var 4) (se_lstV (sa_cons (se_tup (sa_cons (se_item rfl (hu_of hr) (se_item rfl (hu_of hr) (se_var 11) se_int) se_int) (sa_cons (se_var 12) (sa_cons (se_var 9) sa_nil)))) sa_nil))) (sa_cons (se_op od_addA (se_var 5) (se_op od_mulA (se_var 13) (se_callTy cd_int (e.free 16) (sa_cons (se_cmp (od_ltA rfl hr.units) (se_var 13) se_int) sa_nil)))) sa_nil)))) (sss_one (by exact (ss_set 3 (se_dictV rfl rfl (e.free 13) (sa_cons (se_lockQ (locV 3) (se_lc (own := [("one", 30)]) finLst rfl sc_law.nd finL_lst (si_seq rfl (se_var 3)) (blkOk_by (by kernel_rfl)) (.of fun s0 H0 C0 cl0 fp0 => ⟨by exact (sgc_name 30 sc_law.nd), by exact (sts_one (sw_or (st_cmp (od_neA rfl hr.units) (se_var 30) (se_item rfl (hu_of hr) (se_item rfl (hu_of hr) (se_var 11) se_int) se_int)) (sw_or1 (st_cmp od_gtI (se_var 13) se_int))).pt), by exact (se_tup (sa_cons (se_var 30) (sa_cons (se_if (st_cmp (od_eqA rfl hr.units) (se_var 30) (se_item rfl (hu_of hr) (se_item rfl (hu_of hr) (se_var 11) se_int) se_int)) (se_var 13) (se_item rfl (hu_of hr) (se_var 3) (se_var 30))) sa_nil)))⟩))) sa_nil)) sc_law.nd))))) sss_nil))))))))) (sss_one (by exact (ss_if (sw_or (st_cmp (od_neA rfl hr.units) (se_fld 1 (e.cls 0) (e.noat 1) (se_var 2)) (se_var 3)) (sw_or (st_cmp (od_neA rfl hr.units) (se_fld 1 (e.cls 0) (e.noat 2) (se_var 2)) (se_var 4)) (sw_or (st_cmp (od_neA rfl hr.units) (se_fld 1 (e.cls 0) (e.noat 3) (se_var 2)) (se_var 5)) (sw_or (st_cmp (od_neA rfl hr.units) (se_var 6) (se_op od_addA (se_op od_addA (se_meth0 1 (e.cls 0) (e.meth 28) (ok_CupboardWhole e) (hr.mono (by decide)) (b_CupboardWhole e) tk (se_var 2)) (se_var 5)) (se_callB (cd_sum rfl) (e.free 9) (sa_cons (se_lockQ (locV 4) (se_lc (own := [("cut", 31)]) finLst rfl sc_law.nd finL_lst (si_seq rfl (se_var 4)) (blkOk_by (by kernel_rfl)) (.of fun s0 H0 C0 cl0 fp0 => ⟨by exact (sgc_name 31 sc_law.nd), by exact sts_nil, by exact (se_item rfl (hu_of hr) (se_var 31) se_int)⟩))) sa_nil)))) (sw_or1 (st_cmp (od_neA rfl hr.units) (se_meth 1 (e.cls 0) (e.meth 29) (ok_CupboardCutFor e) (hr.mono (by decide)) (b_CupboardCutFor e) tk (se_var 2) (sa_cons se_str sa_nil)) (se_callB (cd_sum rfl) (e.free 9) (sa_cons (se_lockQ (locV 4) (se_lc (own := [("cut", 31)]) finLst rfl sc_law.nd finL_lst (si_seq rfl (se_var 4)) (blkOk_by (by kernel_rfl)) (.of fun s0 H0 C0 cl0 fp0 => ⟨by exact (sgc_name 31 sc_law.nd), by exact (sts_one (st_cmp (od_eqA rfl hr.units) (se_item rfl (hu_of hr) (se_var 31) se_int) se_str)), by exact (se_item rfl (hu_of hr) (se_var 31) se_int)⟩))) sa_nil)))))))).pt (sss_one (by exact (ss_ret se_bl))) sss_nil)))))))) (sss_cons (by exact (ss_asg (se_tup (sa_cons (se_lc (own := [("k", 24)]) finLst rfl sc_law.nd finL_lst (si_range1 (e.free 12) (se_op od_addA se_int (se_call (ok_lawRoll e) (hr.mono (by decide)) (e.glo 17) (e.keep 8 (d := d_lawRoll)) (b_lawRoll e) tk (sa_cons (se_var 1) (sa_cons se_int sa_nil))))) (blkOk_by (by kernel_rfl)) (.of fun s0 H0 C0 cl0 fp0 => ⟨by exact (sgc_name 24 sc_law.nd), by exact sts_nil, by exact (se_call (ok_lawRoll e) (hr.mono (by decide)) (e.glo 17) (e.keep 8 (d := d_lawRoll)) (b_lawRoll e) takesN (sa_cons (se_var 1) (sa_cons se_int sa_nil)))⟩)) (sa_cons (se_lc (own := [("k", 24)]) finLst rfl sc_law.nd finL_lst (si_range1 (e.free 12) (se_call (ok_lawRoll e) (hr.mono (by decide)) (e.glo 17) (e.keep 8 (d := d_lawRoll)) (b_lawRoll e) tk (sa_cons (se_var 1) (sa_cons se_int sa_nil)))) (blkOk_by (by kernel_rfl)) (.of fun s0 H0 C0 cl0 fp0 => ⟨by exact (sgc_name 24 sc_law.nd), by exact sts_nil, by exact (se_op od_addA se_int (se_call (ok_lawRoll e) (hr.mono (by decide)) (e.glo 17) (e.keep 8 (d := d_lawRoll)) (b_lawRoll e) takesN (sa_cons (se_var 1) (sa_cons se_int sa_nil))))⟩)) sa_nil))) (sg_tup 2 rfl rfl (sgs_cons (sg_name 14 sc_law.nd) (sgs_cons (sg_name 15 sc_law.nd) sgs_nil))))) (sss_cons (by exact (ss_set 16 (se_callB (cd_sortedA false rfl rfl hr.units) (e.free 14) (sa_cons (se_lc (own := [("row", 26), ("rest", 27)]) finLst rfl sc_law.nd finL_lst (si_seq rfl (se_call (ok_lawWays e) (hr.mono (by decide)) (e.glo 30) (e.keep 11 (d := d_lawWays)) (b_lawWays e) tk (sa_cons (se_var 14) (sa_cons (se_var 15) sa_nil)))) (blkOk_by (by kernel_rfl)) (.of fun s0 H0 C0 cl0 fp0 => ⟨by exact (sgc_tup 2 rfl rfl (sgcs_cons (sgc_name 26 sc_law.nd) (sgcs_cons (sgc_name 27 sc_law.nd) sgcs_nil))), by exact sts_nil, by exact (se_tup (sa_cons (se_callB (cd_sum rfl) (e.free 9) (sa_cons (se_lc (own := [("k", 24)]) finLst rfl sc_law.nd finL_lst (si_range1 (e.free 12) (se_callB (cd_len rfl) (e.free 4) (sa_cons (se_var 27) sa_nil))) (blkOk_by (by kernel_rfl)) (.of fun s1 H1 C1 cl1 fp1 => ⟨by exact (sgc_name 24 sc_law.nd), by exact (sts_one (sw_and (st_in rfl hr.units (se_var 24) (se_var 26)) (sw_and1 (st_cmp (od_ltA rfl hr.units) (se_item rfl (hu_of hr) (se_var 27) (se_var 24)) se_int))).pt), by exact (se_item rfl (hu_of hr) (se_var 27) (se_var 24))⟩)) sa_nil)) (sa_cons (se_var 26) sa_nil)))⟩)) sa_nil)) sc_law.nd)) (sss_cons (by exact (ss_if (st_cmp (od_neA rfl hr.units) (se_toldE 4 (told e) rfl (e.tab 3).1 rfl (e.tab 3).2.1 (e.tab 3).2.2 hr (lamS_by (by kernel_rfl)) (hexc e) ⟨fun A0 outer0 s0 H0 E0 f0 c0 hr1 tk1 => by exact (se_call (ok_bestCuts e) (hr1.mono (by decide)) (e.glo 23) (e.keep 5 (d := d_bestCuts)) (b_bestCuts e) tk1 (sa_cons (se_var 14) (sa_cons (se_var 15) sa_nil)))⟩) (se_if (st_cmp (od_neA rfl hr.units) (se_var 16) (se_lstV sa_nil)) (se_item rfl (hu_of hr) (se_var 16) se_int) se_str)) (sss_one (by exact (ss_ret se_bl))) sss_nil)) (sss_cons (by exact (ss_asg (se_tup (sa_cons (se_dictV rfl rfl (e.free 13) (sa_cons (se_lc (own := [("k", 24)]) finLst rfl sc_law.nd finL_lst (si_range1 (e.free 12) (se_call (ok_lawRoll e) (hr.mono (by decide)) (e.glo 17) (e.keep 8 (d := d_lawRoll)) (b_lawRoll e) tk (sa_cons (se_var 1) (sa_cons se_int sa_nil)))) (blkOk_by (by kernel_rfl)) (.of fun s0 H0 C0 cl0 fp0 => ⟨by exact (sgc_name 24 sc_law.nd), by exact sts_nil, by exact (se_tup (sa_cons (se_op od_addA se_str (se_callTy cd_str (e.free 26) (sa_cons (se_var 24) sa_nil))) (sa_cons (se_call (ok_lawRoll e) (hr.mono (by decide)) (e.glo 17) (e.keep 8 (d := d_lawRoll)) (b_lawRoll e) takesN (sa_cons (se_var 1) (sa_cons se_int sa_nil))) sa_nil)))⟩)) sa_nil)) (sa_cons (se_op od_addA se_int (se_call (ok_lawRoll e) (hr.mono (by decide)) (e.glo 17) (e.keep 8 (d := d_lawRoll)) (b_lawRoll e) tk (sa_cons (se_var 1) (sa_cons se_int sa_nil)))) sa_nil))) (sg_tup 2 rfl rfl (sgs_cons (sg_name 17 sc_law.nd) (sgs_cons (sg_name 18 sc_law.nd) sgs_nil))))) (sss_cons (by exact (ss_set 19 (se_toldE 4 (told e) rfl (e.tab 3).1 rfl (e.tab 3).2.1 (e.tab 3).2.2 hr (lamS_by (by kernel_rfl)) (hexc e) ⟨fun A0 outer0 s0 H0 E0 f0 c0 hr1 tk1 => by exact (se_call (ok_laysFor e) (hr1.mono (by decide)) (e.glo 24) (e.keep 6 (d := d_laysFor)) (b_laysFor e) tk1 (sa_cons (se_var 17) (sa_cons (se_var 18) sa_nil)))⟩) sc_law.nd)) (sss_cons (by exact (ss_asg (se_tup (sa_cons (se_dictV rfl rfl (e.free 13) (sa_cons (se_lockQ (locV 17) (se_lc (own := [("size", 28)]) finLst rfl sc_law.nd finL_lst (si_seq rfl (se_var 17)) (blkOk_by (by kernel_rfl)) (.of fun s0 H0 C0 cl0 fp0 => ⟨by exact (sgc_name 28 sc_law.nd), by exact sts_nil, by exact (se_tup (sa_cons (se_var 28) (sa_cons se_int sa_nil)))⟩))) sa_nil)) (sa_cons (se_dictV rfl rfl (e.free 13) (sa_cons (se_items rfl (e.free 27) (se_var 17)) sa_nil)) (sa_cons (se_lstV sa_nil) sa_nil)))) (sg_tup 3 rfl rfl (sgs_cons (sg_name 20 sc_law.nd) (sgs_cons (sg_name 13 sc_law.nd) (sgs_cons (sg_name 21 sc_law.nd) sgs_nil)))))) (sss_cons (by exact (ss_while (tb := L_law_t0) (b := L_law_b1) 100000 (passes_of rfl) (by unfold L_law_t0; exact (st_cmp (od_neA rfl hr.units) (se_lockQ (locV 13) (se_lc (own := [("size", 28)]) finLst rfl sc_law.nd finL_lst (si_seq rfl (se_var 13)) (blkOk_by (by kernel_rfl)) (.of fun s0 H0 C0 cl0 fp0 => ⟨by exact (sgc_name 28 sc_law.nd), by exact (sts_one (st_cmp od_gtI (se_item rfl (hu_of hr) (se_var 13) (se_var 28)) se_int)), by exact (se_var 28)⟩))) (se_lstV sa_nil))) (by unfold L_law_b1; exact (sss_cons (by exact (ss_set 22 (se_callTy (cd_tup rfl) (e.free 11) (sa_cons (se_callB (cd_sortedA false rfl rfl hr.units) (e.free 14) (sa_cons (se_lockQ (locV 13) (se_lc (own := [("size", 28)]) finLst rfl sc_law.nd finL_lst (si_seq rfl (se_var 13)) (blkOk_by (by kernel_rfl)) (.of fun s0 H0 C0 cl0 fp0 => ⟨by exact (sgc_name 28 sc_law.nd), by exact (sts_one (st_cmp od_gtI (se_item rfl (hu_of hr) (se_var 13) (se_var 28)) se_int)), by exact (se_var 28)⟩))) sa_nil)) sa_nil)) sc_law.nd)) (sss_cons (by exact (ss_set 23 (se_callB (cd_minD rfl rfl hr.units) (e.free 8) (sa_cons (se_op od_addA (se_lstV (sa_cons (se_var 18) sa_nil)) (se_lockQ (locV 22) (se_lc (own := [("size", 28)]) finLst rfl sc_law.nd finL_lst (si_seq rfl (se_var 22)) (blkOk_by (by kernel_rfl)) (.of fun s0 H0 C0 cl0 fp0 => ⟨by exact (sgc_name 28 sc_law.nd), by exact sts_nil, by exact (se_item rfl (hu_of hr) (se_var 13) (se_var 28))⟩)))) sa_nil)) sc_law.nd)) (sss_one (by exact (ss_asg (se_tup (sa_cons (se_op od_addA (se_var 21) (se_lstV (sa_cons (se_tup (sa_cons (se_var 23) (sa_cons (se_var 22) sa_nil))) sa_nil))) (sa_cons (se_dictV rfl rfl (e.free 13) (sa_cons (se_lockQ (locV 13) (se_lc (own := [("size", 28)]) finLst rfl sc_law.nd finL_lst (si_seq rfl (se_var 13)) (blkOk_by (by kernel_rfl)) (.of fun s0 H0 C0 cl0 fp0 => ⟨by exact (sgc_name 28 sc_law.nd), by exact sts_nil, by exact (se_tup (sa_cons (se_var 28) (sa_cons (se_op od_subI (se_item rfl (hu_of hr) (se_var 13) (se_var 28)) (se_op od_mulA (se_var 23) (se_callTy cd_int (e.free 16) (sa_cons (se_in rfl hr.units (se_var 28) (se_var 22)) sa_nil)))) sa_nil)))⟩))) sa_nil)) sa_nil))) (sg_tup 2 rfl rfl (sgs_cons (sg_name 21 sc_law.nd) (sgs_cons (sg_name 13 sc_law.nd) sgs_nil))))))))))) (sss_cons (by exact (ss_lockQ (locV 19) (ss_for (passes_of rfl) rfl (si_seq rfl (se_var 19)) (sg_tup 2 rfl rfl (sgs_cons (sg_name 23 sc_law.nd) (sgs_cons (sg_name 22 sc_law.nd) sgs_nil))) (b := L_law_b2) (by unfold L_law_b2; exact (sss_one (by exact (ss_set 20 (se_dictV rfl rfl (e.free 13) (sa_cons (se_lockQ (locV 20) (se_lc (own := [("size", 28)]) finLst rfl sc_law.nd finL_lst (si_seq rfl (se_var 20)) (blkOk_by (by kernel_rfl)) (.of fun s0 H0 C0 cl0 fp0 => ⟨by exact (sgc_name 28 sc_law.nd), by exact sts_nil, by exact (se_tup (sa_cons (se_var 28) (sa_cons (se_op od_addA (se_item rfl (hu_of hr) (se_var 20) (se_var 28)) (se_op od_mulA (se_var 23) (se_callTy cd_int (e.free 16) (sa_cons (se_in rfl hr.units (se_var 28) (se_var 22)) sa_nil)))) sa_nil)))⟩))) sa_nil)) sc_law.nd))))))) (sss_one (by exact (ss_if (sw_or (st_cmp (od_neA rfl hr.units) (se_var 20) (se_var 17)) (sw_or1 (st_cmp (od_neA rfl hr.units) (se_callTy (cd_list false rfl rfl) (e.free 27) (sa_cons (se_var 19) sa_nil)) (se_var 21)))).pt (sss_one (by exact (ss_ret se_bl))) sss_nil)))))))))))))))) (sss_fresh (g := L_law_tail0) (by unfold L_law_tail0; exact (sss_cons (by exact (ss_set 2 (se_make0 1 (e.mkr 20) (ok_CupboardInit e) (hr.mono (by decide)) (e.glo 21) (b_CupboardInit e) tk) sc_law.nd)) (sss_cons (by exact (ss_for (passes_of rfl) rfl (si_range1 (e.free 12) se_int) (sg_name 24 sc_law.nd) (b := L_law_b4) (by unfold L_law_b4; exact (sss_one (by exact (ss_expr (se_meth 1 (e.cls 0) (e.meth 19) (ok_CupboardAdd e) (hr.mono (by decide)) (b_CupboardAdd e) tk (se_var 2) (sa_cons (se_op od_addA se_str (se_callTy cd_str (e.free 26) (sa_cons (se_var 24) sa_nil))) (sa_cons se_int sa_nil))))))))) (sss_cons (by exact (ss_set 25 (se_lstV (sa_cons (se_lam 0 rfl rfl (e.tab 3).1 rfl (e.tab 3).2.1 (e.tab 3).2.2 (lamS_by (by kernel_rfl)) rfl) (sa_cons (se_lam 1 rfl rfl (e.tab 3).1 rfl (e.tab 3).2.1 (e.tab 3).2.2 (lamS_by (by kernel_rfl)) rfl) (sa_cons (se_lam 2 rfl rfl (e.tab 3).1 rfl (e.tab 3).2.1 (e.tab 3).2.2 (lamS_by (by kernel_rfl)) rfl) (sa_cons (se_lam 3 rfl rfl (e.tab 3).1 rfl (e.tab 3).2.1 (e.tab 3).2.2 (lamS_by (by kernel_rfl)) rfl) (sa_cons (se_lam 4 rfl rfl (e.tab 3).1 rfl (e.tab 3).2.1 (e.tab 3).2.2 (lamS_by (by kernel_rfl)) rfl) (sa_cons (se_lam 5 rfl rfl (e.tab 3).1 rfl (e.tab 3).2.1 (e.tab 3).2.2 (lamS_by (by kernel_rfl)) rfl) (sa_cons (se_lam 6 rfl rfl (e.tab 3).1 rfl (e.tab 3).2.1 (e.tab 3).2.2 (lamS_by (by kernel_rfl)) rfl) (sa_cons (se_lam 7 rfl rfl (e.tab 3).1 rfl (e.tab 3).2.1 (e.tab 3).2.2 (lamS_by (by kernel_rfl)) rfl) (sa_cons (se_lam 8 rfl rfl (e.tab 3).1 rfl (e.tab 3).2.1 (e.tab 3).2.2 (lamS_by (by kernel_rfl)) rfl) (sa_cons (se_lam 9 rfl rfl (e.tab 3).1 rfl (e.tab 3).2.1 (e.tab 3).2.2 (lamS_by (by kernel_rfl)) rfl) sa_nil))))))))))) sc_law.nd)) (sss_one (by exact (ss_ret (se_and (se_cmp (od_eqA rfl hr.units) (se_lockQ (locV 25) (se_lc (own := [("f", 29)]) finLst rfl sc_law.nd finL_lst (si_seq rfl (se_var 25)) (blkOk_by (by kernel_rfl)) ⟨fun pins0 sz0 s0 H0 C0 cl0 fp0 I0 hfp0 => ⟨by exact (sgc_name 29 sc_law.nd), by exact (pts_one (st_toldf 4 (told e) (od_neA rfl hr.units) I0 hfp0 rfl hr (hexc e) (lams_bad_mp e))), by exact (pe_imp se_int fun _ _ _ z => z.2)⟩⟩)) (se_lstV sa_nil)) (se_and (se_cmp (od_eqA rfl hr.units) (se_glob (v := .int 20) (d := .int 20) (by rfl) (e.int 5).choose_spec ⟨_, rfl⟩ fun _ _ _ => rfl) se_int) (se_and (se_cmp (od_eqA rfl hr.units) (se_meth 1 (e.cls 0) (e.meth 22) (ok_CupboardCut e) (hr.mono (by decide)) (b_CupboardCut e) tk (se_var 2) (sa_cons se_str (sa_cons se_int sa_nil))) se_str) (se_and (se_cmp (od_eqA rfl hr.units) (se_fld 1 (e.cls 0) (e.noat 3) (se_var 2)) se_int) (se_and (se_cmp (od_eqA rfl hr.units) (se_call (ok_bestCuts e) (hr.mono (by decide)) (e.glo 23) (e.keep 5 (d := d_bestCuts)) (b_bestCuts e) tk (sa_cons (se_lstV (sa_cons se_int (sa_cons se_int sa_nil))) (sa_cons (se_lstV (sa_cons se_int sa_nil)) sa_nil))) (se_tup (sa_cons se_int (sa_cons (se_tup (sa_cons se_int sa_nil)) sa_nil)))) (se_and (se_cmp (od_eqA rfl hr.units) (se_call (ok_bestCuts e) (hr.mono (by decide)) (e.glo 23) (e.keep 5 (d := d_bestCuts)) (b_bestCuts e) tk (sa_cons (se_lstV (sa_cons se_int (sa_cons se_int sa_nil))) (sa_cons (se_lstV (sa_cons se_int sa_nil)) sa_nil))) (se_tup (sa_cons se_int (sa_cons (se_tup (sa_cons se_int sa_nil)) sa_nil)))) (se_one (se_cmp (od_eqA rfl hr.units) (se_call (ok_laysFor e) (hr.mono (by decide)) (e.glo 24) (e.keep 6 (d := d_laysFor)) (b_laysFor e) tk (sa_cons (se_disp (fps := (((cst (.str "a")), (cst (.int 3))) :: (((cst (.str "b")), (cst (.int 1))) :: []))) (pps_cons se_str se_int (pps_cons se_str se_int pps_nil))) (sa_cons se_int sa_nil))) (se_tup (sa_cons (se_tup (sa_cons se_int (sa_cons (se_tup (sa_cons se_str (sa_cons se_str sa_nil))) sa_nil))) (sa_cons (se_tup (sa_cons se_int (sa_cons (se_tup (sa_cons se_str sa_nil)) sa_nil))) sa_nil))))))))))))))))))))
end
abbrev R : PySem.W.OpenRow := PySem.W.OpenLaw.row PySem.Challenge.rw_tailorstack_k04_cuts_from_bolts
abbrev hk : PySem.W.Hook := He.hookX 5 fa fn [] (tq.map (·.1)) ex
def ob (s : PySem.W.SharedT) : He.AlX := He.obsX 5 fa fn [] (tq.map (·.1)) ex (HandSHeadRun.getT s)
theorem ob_eq (s : PySem.W.SharedT) : ob s = hk.obs s.abs := He.obsX_eq (HandSHeadRun.getT_eq s)
def loose : List Str := ["TailorError", "BoltError", "MOST_BOLTS", "Cupboard", "best_cuts", "lays_for", "_law_dice", "_law_roll", "_law_rounds", "_law_told", "_law_ways"]
set_option maxHeartbeats 0 in
theorem run (w : World) : HandSHeadRun.RunEq R (PySem.W.view R.prog [14]) hk ob 5000 loose w := by
  intro os
  kernel_rfl
/-- what the mathematics has to say -/
def LawMath : Prop := ∀ (ns : List Int) (d : D) (S : Sto), ns.length ≤ 63 → (∀ z ∈ ns, Builtin.Int.intBits z ≤ 1048576) → (d = .kl (ns.map .int) ∧ S = ⟨[], []⟩) ∨ (d = .ref 0 ∧ ∃ lk : List Nat, (∀ l ∈ lk, l = 0) ∧ S = ⟨[.lst (ns.map .int)], lk⟩) → ∃ S', D_law [d] S = .ok (.bl true) S'
open PySem PySem.W PySem.Calls PyProof.Rows in
set_option maxHeartbeats 0 in
theorem holds_of (hm : LawMath) : PySem.Challenge.rw_tailorstack_k04_cuts_from_bolts.Holds := by
  w_on; o_law
  refine HandSHeadRun.head_any (r := OpenLaw.row PySem.Challenge.rw_tailorstack_k04_cuts_from_bolts) (q := view (OpenLaw.row PySem.Challenge.rw_tailorstack_k04_cuts_from_bolts).prog [14]) (H := hk) (ob := ob) (M := 5000) (loose := loose) (d := HandSHeadRun.topDef (OpenLaw.row PySem.Challenge.rw_tailorstack_k04_cuts_from_bolts).prog 14) (kwd := []) ob_eq
    (by kernel_rfl) (fun s => by kernel_rfl) run (by kernel_rfl) (by kernel_rfl) (by kernel_rfl) (by rfl) (by first | assumption | decide +kernel) (by decide +kernel) ⟨rfl, rfl, rfl, rfl, rfl, by decide +kernel⟩ ?hw ?hc
  case hw => w_witness2
  case hc =>
    refine LamX.walk_ofTsE (l := PySem.Challenge.rw_tailorstack_k04_cuts_from_bolts) (n := 63) (k := 7) (x := "script") (CX := fun w => L2.CX (PySem.Challenge.rw_tailorstack_k04_cuts_from_bolts).prog w) rfl (by decide) (by kernel_rfl) ⟨rfl, by decide, by decide⟩ ?F fun w H s e s' z => cx_none w H s e s' z
    intro w mg f h Y Gh hmg0
    obtain ⟨K, KX, c⟩ := Y
    have hmg : mg ("law" : PySem.Str) = some (.ref f) := by
      have e : (HandSHeadRun.topDef (OpenLaw.row PySem.Challenge.rw_tailorstack_k04_cuts_from_bolts).prog 14).name = ("law" : PySem.Str) := by kernel_rfl
      rw [← e]
      exact hmg0
    refine ⟨K, KX, lawAtS_of (d := d_law) (i := 33) (j := 12) KX Gh c hmg rfl rfl rfl rfl (fun _ _ _ _ _ _ us hl => match us, hl with | [_], _ => rfl) fun base e => ?_⟩
    exact lawC_ok (G := fun cl => GG K (lamPX (("law" : Str) ++ ".<locals>.") cl lams_bad)) (N := N_law) (fb := dn_law) (p := d_law.at_) (fun _ => rfl) (fun _ => rfl) (e.def_ 12 (d := d_law)) sc_law (fun A outer s H E hr tk => ok_law_body e A outer s H E hr tk) hm
end K04

set_option Elab.async false
set_option linter.all false
set_option maxRecDepth 100000
set_option maxHeartbeats 1000000
namespace K04
open PySem PySem.Spec PyProof.Rows L2 LamX Fd
/-! ### the mathematics of k04 -/
theorem tail_ok : (match L_law_tail0 (List.replicate 32 none) Sto.e with
  | .ok (.rt (.bl b)) _ => b
  | _ => false) = true := by decide +kernel
/-! ### the dice -/
def diceAt (S : Sto) (l : Nat) : Prop := S.locked l = false ∧ ∃ a b c : Int, S.objs[l]? = some (.lst [.int a, .int b, .int c])
theorem diceAt.put {S : Sto} {l : Nat} (h : diceAt S l) (a b c : Int) : diceAt (S.put l (.lst [.int a, .int b, .int c])) l := by
  obtain ⟨h1, x, y, z, h2⟩ := h
  exact ⟨h1, a, b, c, put_at (List.getElem?_eq_some_iff.mp h2).1⟩
theorem put_self {S : Sto} {l : Nat} {o : SO} (h : S.objs[l]? = some o) : S.put l o = S := by
  obtain ⟨h1, h2⟩ := List.getElem?_eq_some_iff.mp h
  show (⟨S.objs.set l o, S.lck⟩ : Sto) = S
  rw [← h2, List.set_getElem_self]
theorem roll_wp {S : Sto} {l : Nat} {m : Int} {Q : D → Sto → Prop} {E : Nat → Sto → Prop} (hd : diceAt S l) (hm : 0 < m) (hm2 : m ≤ 100000000) (k : ∀ r a b c : Int, 0 ≤ r → r < m → Q (.int r) (S.put l (.lst [.int a, .int b, .int c]))) : wp (D_lawRoll [.ref l, .int m]) S Q E := by
  obtain ⟨hl, a, b, c, ho⟩ := hd
  have hlt : l < S.objs.length := (List.getElem?_eq_some_iff.mp ho).1
  have at_ : ∀ o, (S.put l o).objs[l]? = some o := fun o => put_at hlt
  have w0 : ∀ {x y z : D} {Q : D → Sto → Prop} {E : Nat → Sto → Prop}, wp (itemO (.ref l) (.int 0)) (S.put l (.lst [x, y, z])) Q E = Q x (S.put l (.lst [x, y, z])) := wp_eq (item3 (at_ _)).1
  have w1 : ∀ {x y z : D} {Q : D → Sto → Prop} {E : Nat → Sto → Prop}, wp (itemO (.ref l) (.int 1)) (S.put l (.lst [x, y, z])) Q E = Q y (S.put l (.lst [x, y, z])) := wp_eq (item3 (at_ _)).2.1
  have w2 : ∀ {x y z : D} {Q : D → Sto → Prop} {E : Nat → Sto → Prop}, wp (itemO (.ref l) (.int 2)) (S.put l (.lst [x, y, z])) Q E = Q z (S.put l (.lst [x, y, z])) := wp_eq (item3 (at_ _)).2.2
  have v0 : ∀ {x y z v : D} {Q : Unit → Sto → Prop} {E : Nat → Sto → Prop}, wp (setO (.ref l) (.int 0) v) (S.put l (.lst [x, y, z])) Q E = Q () (S.put l (.lst [v, y, z])) := fun {x y z v Q E} => by rw [wp_eq (set_lst (j := 0) (at_ _) hl rfl), put_put]; rfl
  have v1 : ∀ {x y z v : D} {Q : Unit → Sto → Prop} {E : Nat → Sto → Prop}, wp (setO (.ref l) (.int 1) v) (S.put l (.lst [x, y, z])) Q E = Q () (S.put l (.lst [x, v, z])) := fun {x y z v Q E} => by rw [wp_eq (set_lst (j := 1) (at_ _) hl rfl), put_put]; rfl
  have v2 : ∀ {x y z v : D} {Q : Unit → Sto → Prop} {E : Nat → Sto → Prop}, wp (setO (.ref l) (.int 2) v) (S.put l (.lst [x, y, z])) Q E = Q () (S.put l (.lst [x, y, v])) := fun {x y z v Q E} => by rw [wp_eq (set_lst (j := 2) (at_ _) hl rfl), put_put]; rfl
  have nh : ¬ (100000000 < m) := by omega
  have m1 : ∀ (i : Int) {S : Sto} {Q : D → Sto → Prop} {E : Nat → Sto → Prop}, wp (mulA (.int i) (.int 48271)) S Q E = Q (.int (i * 48271)) S := fun i => wp_mulI (.inr ⟨by decide, by decide⟩)
  have m2 : ∀ (i : Int) {S : Sto} {Q : D → Sto → Prop} {E : Nat → Sto → Prop}, wp (mulA (.int i) (.int 69621)) S Q E = Q (.int (i * 69621)) S := fun i => wp_mulI (.inr ⟨by decide, by decide⟩)
  have m3 : ∀ (i : Int) {S : Sto} {Q : D → Sto → Prop} {E : Nat → Sto → Prop}, wp (modI (.int i) (.int 2147483647)) S Q E = Q (.int (i % 2147483647)) S := fun i => wp_modI (by decide)
  have m4 : ∀ (i : Int) {S : Sto} {Q : D → Sto → Prop} {E : Nat → Sto → Prop}, wp (fdvI (.int i) (.int 7)) S Q E = Q (.int (i / 7)) S := fun i => wp_fdvI (by decide) (by decide)
  have fin : ∀ (z : Int) (a b c : Int), Q (.int (z % m)) (S.put l (.lst [.int a, .int b, .int c])) := fun z a b c => k _ _ _ _ (Int.emod_nonneg _ (by omega)) (Int.emod_lt_of_pos _ hm)
  rw [← put_self ho]
  unfold D_lawRoll bodyD dn_lawRoll
  simp only [seqS, ifS, orT, andT, tst1, bin2, getV, cst, callE, consA, nilA, setS, asgS, subG, retS, skip, wp_bind, wp_pure, wp_ite, startD, List.map, List.length, List.replicate, List.append, List.cons_append, List.nil_append, List.getElem?_cons_zero, List.getElem?_cons_succ, List.set_cons_zero, List.set_cons_succ, w0, w1, w2, v0, v1, v2, m1, m2, m3, m4, wp_eqI, wp_asB, wp_gtI, wp_intI, wp_addI, wp_modI hm, wp_fdvI hm (show m < 1073741824 by omega), decide_eq_true_eq, nh, if_false, if_true, fin, ite_self]
theorem powI_18 {S : Sto} {Q : D → Sto → Prop} {E : Nat → Sto → Prop} : wp (powI (.int 10) (.int 18)) S Q E = Q (.int 1000000000000000000) S := by
  refine wp_eq ?_
  show (if (decide (-(2 ^ 64) < (10 : Int) ∧ (10 : Int) < 2 ^ 64) && decide ((0 : Int) ≤ 18) && decide ((18 : Int) ≤ 64)) = true then M.pure (D.int ((10 : Int) ^ (18 : Int).toNat)) else M.stk : M D) S = _
  rw [if_pos (by decide)]
  show Fd.R.ok (D.int ((10 : Int) ^ (18 : Int).toNat)) S = _
  rw [show ((10 : Int) ^ (18 : Int).toNat) = 1000000000000000000 by decide +kernel]
theorem newL_wp {S : Sto} {Q : D → Sto → Prop} {E : Nat → Sto → Prop} (ds : List D) : wp (newL ds) S Q E = Q (.ref S.n) (S.push (.lst ds)) := rfl
theorem le3 (a b c : D) : ([a, b, c] : List D).length ≤ sizeLine := by show 3 ≤ sizeLine; decide
theorem dice_wp {S : Sto} {z : Int} {Q : D → Sto → Prop} {E : Nat → Sto → Prop} (k : ∀ a b c : Int, Q (.ref S.n) (S.push (.lst [.int a, .int b, .int c]))) : wp (D_lawDice [.int z]) S Q E := by
  have ab : ∀ {i : Int} {S : Sto} {Q : D → Sto → Prop} {E : Nat → Sto → Prop}, wp (absC [.int i]) S Q E = Q (.int (if i < 0 then -i else i)) S := rfl
  have m1 : ∀ (i : Int) {S : Sto} {Q : D → Sto → Prop} {E : Nat → Sto → Prop}, wp (modI (.int i) (.int 1009)) S Q E = Q (.int (i % 1009)) S := fun i => wp_modI (by decide)
  have h3 : (0 + 1 + 1 + 1 ≤ sizeLine) = True := eq_true (by decide)
  unfold D_lawDice bodyD dn_lawDice
  simp only [seqS, ifS, tst1, chainV, bin2, getV, cst, callE, consA, nilA, lstO, retS, skip, wp_bind, wp_pure, wp_ite, startD, List.map, List.length_cons, List.length_nil, List.length, List.replicate, List.append, List.cons_append, List.nil_append, List.getElem?_cons_zero, List.getElem?_cons_succ, wp_asB, wp_ltI, wp_geI, wp_intI, wp_intB, wp_addI, wp_subI, powI_18, m1, ab, h3, newL_wp, if_true, k, ite_self]
/-! ### the script's cells -/
theorem cut1_nil : Fd.cutD [] none (some 1) = [] := rfl
theorem cut1_cons (a : D) (r : List D) : Fd.cutD (a :: r) none (some 1) = [a] := by
  unfold Fd.cutD
  have h1 : HT.sIx (a :: r).length 0 none = 0 := rfl
  have h2 : HT.sIx (a :: r).length (a :: r).length (some 1) = 1 := by
    unfold HT.sIx
    simp
  rw [h1, h2]
  rfl
theorem eqNil_wp {S : Sto} {Q : D → Sto → Prop} {E : Nat → Sto → Prop} {ds : List D} {ps : List PyData} (hp : ds.mapM (toPy S 11) = some ps) : wp (eqA (.lst ds) (.lst [])) S Q E = Q (.bl ds.isEmpty) S := by
  refine wp_eq ?_
  show (match py S (.lst ds), py S (.lst []) with
    | some a, some b => Fd.R.ok (D.bl (PyData.eqv a b)) S
    | _, _ => .stk) = _
  have h1 : py S (.lst ds) = some (.list ps) := by
    show (ds.mapM (toPy S 11)).map PyData.list = _
    rw [hp]
    rfl
  have h2 : py S (.lst []) = some (.list []) := rfl
  rw [h1, h2]
  show Fd.R.ok (D.bl (PyData.eqv (.list ps) (.list []))) S = _
  have h3 : PyData.eqv (.list ps) (.list []) = ds.isEmpty := by
    cases ds with
    | nil =>
      cases hp
      simp [PyData.eqv, PyData.eqvAll]
    | cons d ds =>
      cases ps with
      | nil =>
        rw [List.mapM_cons] at hp
        cases e1 : toPy S 11 d with
        | none => rw [e1] at hp; cases hp
        | some p =>
          rw [e1] at hp
          cases e2 : ds.mapM (toPy S 11) with
          | none => rw [e2] at hp; cases hp
          | some p => rw [e2] at hp; cases hp
      | cons p ps => simp [PyData.eqv, PyData.eqvAll]
  rw [h3]
theorem mapM_ints (S : Sto) (n : Nat) : ∀ l : List Int, (l.map D.int).mapM (toPy S (n + 1)) = some (l.map PyData.int)
  | [] => rfl
  | i :: l => by
    rw [List.map_cons, List.mapM_cons, mapM_ints S n l]
    rfl
theorem slice1_wp {S : Sto} {Q : D → Sto → Prop} {E : Nat → Sto → Prop} {d : D} {ns : List Int} (ht : tupD d = none) (hk : seqK S d = some (ns.map .int)) : wp (sliceC d none (some 1)) S Q E = Q (.lst ((ns.map D.int).take 1)) S := by
  refine wp_eq ?_
  unfold sliceC
  rw [ht, hk]
  cases ns with
  | nil => rfl
  | cons a r => exact congrArg (fun z => Fd.R.ok (D.lst z) S) (cut1_cons _ _)
theorem items_lst {S : Sto} {Q : List D → Sto → Prop} {E : Nat → Sto → Prop} {ds : List D} : wp (itemsOf (.lst ds)) S Q E = Q ds S := rfl
theorem lockQ_lst {α : Type} {S : Sto} {σ : En} {i : Nat} {f : En → M α} {ds : List D} (h : σ[i]? = some (some (.lst ds))) : lockQ (locV i) f σ S = f σ S := by
  unfold lockQ locV
  rw [h]
  rfl
theorem rounds_wp {S : Sto} {Q : D → Sto → Prop} {E : Nat → Sto → Prop} {d : D} {ns : List Int} (ht : tupD d = none) (hk : seqK S d = some (ns.map .int)) (k : ∀ a b c : Int, Q (.lst [.ref S.n]) (S.push (.lst [.int a, .int b, .int c]))) : wp (D_lawRounds [d, .int 1]) S Q E := by
  have h1 : (0 + 1 ≤ sizeLine) = True := eq_true (by decide)
  have h0 : (0 ≤ sizeLine) = True := eq_true (Nat.zero_le _)
  have gen : ∀ (z : Int) {Q : D → Sto → Prop} {E : Nat → Sto → Prop}, (∀ a b c : Int, Q (.lst [.ref S.n]) (S.push (.lst [.int a, .int b, .int c]))) → wp (lockQ (locV 2) (genE (itSeq (getV 2)) [3] (nameG 3) yesT (callE (consA (getV 3) nilA) (arg 1 D_lawDice)) chkAll finLst) [some d, some (.int 1), some (.lst [.int z]), none]) S Q E := fun z Q E hq => by
    unfold wp
    rw [lockQ_lst rfl]
    show wp _ S Q E
    simp only [genE, itSeq, getV, wp_bind, wp_pure, List.getElem?_cons_zero, List.getElem?_cons_succ, items_lst]
    refine wp_genL (fun ys ds S' => (ys = [] ∧ ds = [.int z] ∧ S' = S) ∨ (ds = [] ∧ ∃ a b c : Int, ys = [.ref S.n] ∧ S' = S.push (.lst [.int a, .int b, .int c]))) (fun ys x ds S' h => ?_) (fun ys S' h => ?_) _ _ _ (.inl ⟨rfl, rfl, rfl⟩)
    · rcases h with ⟨rfl, h2, rfl⟩ | ⟨h2, _⟩
      · cases h2
        have h1' : ((0 : Nat) + 1 = 1) = True := eq_true rfl
        simp only [bodG, nameG, yesT, wipeE, callE, consA, nilA, arg, getV, wp_bind, wp_pure, wp_ite, if_true, List.set_cons_zero, List.set_cons_succ, List.getElem?_cons_zero, List.getElem?_cons_succ, List.length_cons, List.length_nil, h1']
        refine dice_wp fun a b c => ?_
        have hc : chkAll [] (D.ref S'.n) = some none := if_pos (by decide)
        simp only [hc]
        exact .inr ⟨trivial, a, b, c, rfl, rfl⟩
      · cases h2
    · rcases h with ⟨_, h2, _⟩ | ⟨_, a, b, c, rfl, rfl⟩
      · cases h2
      · exact hq a b c
  unfold D_lawRounds bodyD dn_lawRounds
  simp only [seqS, ifS, tst1, bin2, sliceE, partD, getV, cst, setS, retS, skip, lstV, consA, nilA, wp_bind, wp_pure, wp_ite, startD, List.map_cons, List.map_nil, List.length_cons, List.length_nil, List.replicate, List.append, List.cons_append, List.nil_append, List.getElem?_cons_zero, List.getElem?_cons_succ, List.set_cons_zero, List.set_cons_succ, slice1_wp ht hk, h0, h1, if_true]
  cases ns with
  | nil =>
    simp only [List.map_nil, List.take_nil]
    rw [eqNil_wp (ps := []) rfl]
    simp only [wp_asB, List.isEmpty_nil, if_true, List.getElem?_cons_zero, List.getElem?_cons_succ, List.set_cons_zero, List.set_cons_succ]
    exact gen 0 k
  | cons a r =>
    simp only [List.map_cons, List.take_succ_cons, List.take_zero]
    rw [eqNil_wp (ps := [.int a]) rfl]
    simp only [wp_asB, List.isEmpty_cons, Bool.false_eq_true, if_false, List.getElem?_cons_zero, List.getElem?_cons_succ, List.set_cons_zero, List.set_cons_succ]
    exact gen a k
/-! ### the law, its round left open -/
def RoundOk : Prop := ∀ (σ : En) (S : Sto) (l : Nat), σ.length = 32 → σ[1]? = some (some (.ref l)) → diceAt S l → (∀ k, l ≤ k → S.locked k = false) → wp (L_law_b3 σ) S (fun fl _ => ∃ σ' : En, fl = .nx σ' ∧ σ'.length = 32) fun _ _ => False
theorem tail_run : ∃ S', L_law_tail0 (List.replicate 32 none) Sto.e = .ok (.rt (.bl true)) S' := by
  have h := tail_ok
  cases e : L_law_tail0 (List.replicate 32 none) Sto.e with
  | stk => rw [e] at h; cases h
  | exc c S' => rw [e] at h; cases h
  | ok fl S' =>
    rw [e] at h
    cases fl with
    | rt d =>
      cases d with
      | bl b =>
        have h : b = true := h
        rw [h]
        exact ⟨S', rfl⟩
      | _ => cases h
    | _ => cases h
theorem map_none (σ : En) (h : σ.length = 32) : σ.map (fun _ => (none : Option D)) = List.replicate 32 none := by
  rw [List.map_const', h]
theorem fresh_wp {σ : En} {S : Sto} {Q : Fl → Sto → Prop} {E : Nat → Sto → Prop} (h : σ.length = 32) (q : Q (.rt (.bl true)) S) : wp (freshS L_law_tail0 σ) S Q E := by
  obtain ⟨S', e⟩ := tail_run
  refine wp_of (a := Fl.rt (.bl true)) (S' := S) ?_ q
  unfold freshS
  rw [map_none σ h, e]
  rfl
theorem law_of (hr : RoundOk) : LawMath := by
  intro ns d S hl hb hd
  have hk : seqK S d = some (ns.map .int) := by
    rcases hd with ⟨rfl, rfl⟩ | ⟨rfl, lk, _, rfl⟩
    · rfl
    · rfl
  have ht : tupD d = none := by
    rcases hd with ⟨rfl, _⟩ | ⟨rfl, _⟩ <;> rfl
  have hlk : ∀ k, S.n ≤ k → S.lck.contains k = false := fun k hk => by
    rcases hd with ⟨_, rfl⟩ | ⟨_, lk, h0, rfl⟩
    · rfl
    · have hk : 1 ≤ k := hk
      show lk.contains k = false
      rw [List.contains_eq_mem]
      refine decide_eq_false fun hm => ?_
      have := h0 k hm
      omega
  have key : wp (D_law [d]) S (fun a _ => a = .bl true) fun _ _ => False := by
    unfold D_law bodyD dn_law
    simp only [seqS, forS, itSeq, callE, consA, nilA, cst, arg, getV, wp_bind, wp_pure, wp_ite, startD, List.map_cons, List.map_nil, List.length_cons, List.length_nil, List.replicate, List.append, List.cons_append, List.nil_append, List.getElem?_cons_zero, show ((0 : Nat) + 1 + 1 = 2) = True from eq_true rfl, if_true]
    refine rounds_wp ht hk fun a b c => ?_
    rw [items_lst]
    refine wp_loop (fun ds σ S' => σ.length = 32 ∧ (ds = [] ∨ (ds = [.ref S.n] ∧ S' = S.push (.lst [.int a, .int b, .int c])))) (fun x ds σ S' h => ?_) (fun σ S' h => ?_) _ _ _ ⟨rfl, .inr ⟨rfl, rfl⟩⟩
    · obtain ⟨h1, h2 | ⟨h2, rfl⟩⟩ := h
      · cases h2
      · cases h2
        simp only [nameG, wp_pure]
        have h1' : (σ.set 1 (some (D.ref S.n))).length = 32 := by rw [List.length_set]; exact h1
        refine wp_mono (hr (σ.set 1 (some (.ref S.n))) (S.push (.lst [.int a, .int b, .int c])) S.n h1' (List.getElem?_set_self (by omega)) ⟨hlk _ (Nat.le_refl _), a, b, c, ?_⟩ fun k hk => hlk k hk) (fun fl S2 ⟨σ', e, h3⟩ => ?_) fun _ _ z => z
        · show (S.objs ++ [_])[S.objs.length]? = _
          rw [List.getElem?_append_right (Nat.le_refl _), Nat.sub_self]
          rfl
        · subst e
          exact ⟨h3, .inl (by first | rfl | trivial)⟩
    · simp only
      exact fresh_wp h.1 rfl
  obtain ⟨a, S', e, h⟩ := wp_out key
  exact ⟨S', by rw [e, h]⟩
end K04

set_option Elab.async false
set_option linter.all false
set_option maxRecDepth 100000
set_option maxHeartbeats 1000000
namespace K04
open PySem PySem.Spec PyProof.Rows L2 LamX Fd
/-! ### the cupboard -/
def cupF (lb lu : Nat) (r : Int) : List (Str × D) := [("bolts", .ref lb), ("cuts", .ref lu), ("rags", .int r)]
/-- a cupboard at lc, its bolts at lb, its cuts at lu -/
structure Cup (S : Sto) (lc lb lu : Nat) (kvs : List (DK × D)) (cuts : List D) (r : Int) : Prop where
  c : S.objs[lc]? = some (.ins 1 (cupF lb lu r))
  b : S.objs[lb]? = some (.dct false kvs)
  u : S.objs[lu]? = some (.lst cuts)
  ul : S.locked lc = false ∧ S.locked lb = false ∧ S.locked lu = false
theorem cup_fld {S : Sto} {lc lb lu : Nat} {kvs : List (DK × D)} {cuts : List D} {r : Int} (h : Cup S lc lb lu kvs cuts r) : fldO 1 "bolts" (.ref lc) S = .ok (.ref lb) S ∧ fldO 1 "cuts" (.ref lc) S = .ok (.ref lu) S ∧ fldO 1 "rags" (.ref lc) S = .ok (.int r) S := by
  refine ⟨?_, ?_, ?_⟩ <;> (unfold fldO getF; simp only [h.c, if_true]; rfl)
theorem whole_wp {S : Sto} {Q : D → Sto → Prop} {E : Nat → Sto → Prop} {lc lb lu : Nat} {kvs : List (DK × D)} {cuts : List D} {r : Int} (h : Cup S lc lb lu kvs cuts r) (hi : allInts (kvs.map (·.2)) = true) (hs : sumsOk ((kvs.map (·.2)).map dI) = true) (k : Q (.int ((kvs.map (·.2)).map dI).sum) S) : wp (D_CupboardWhole [.ref lc]) S Q E := by
  have ho : ownK S (.ref lb) = some (lb, kvs) := by unfold ownK; simp only [h.ul.2.1, h.b, Bool.false_eq_true, if_false]
  have hv : ∀ {Q : D → Sto → Prop} {E : Nat → Sto → Prop}, wp (fldO 1 "bolts" (.ref lc)) S Q E = Q (.ref lb) S := wp_eq (cup_fld h).1
  unfold D_CupboardWhole bodyD dn_CupboardWhole
  rw [show startD 1 [D.ref lc] = [some (D.ref lc)] from rfl]
  simp only [retS, sumValsE, fldE, getV, wp_bind, wp_pure, List.getElem?_cons_zero, hv]
  unfold wp
  simp only [ho, hi, hs, Bool.and_self, if_true]
  exact k
theorem dct_at {S : Sto} {l : Nat} {kvs : List (DK × D)} (h : S.objs[l]? = some (.dct false kvs)) : dctD S (.ref l) = some (false, kvs) := by unfold dctD; simp only [h]
theorem in_wp {S : Sto} {Q : D → Sto → Prop} {E : Nat → Sto → Prop} {l : Nat} {kvs : List (DK × D)} {nm : Str} (h : S.objs[l]? = some (.dct false kvs)) : wp (inO (.str nm) (.ref l)) S Q E = Q (.bl (val kvs (.k (.inr nm))).isSome) S := by
  refine wp_eq ?_
  unfold inO alt2
  simp only [dct_at h, Option.isSome_some, if_true]
  unfold dinO
  simp only [dct_at h]
  show Fd.R.ok (D.bl (true == (val kvs (.k (.inr nm))).isSome)) S = _
  cases (val kvs (.k (.inr nm))).isSome <;> rfl
theorem lenD_wp {S : Sto} {Q : D → Sto → Prop} {E : Nat → Sto → Prop} {l : Nat} {kvs : List (DK × D)} (h : S.objs[l]? = some (.dct false kvs)) : wp (lenC [.ref l]) S Q E = Q (.int kvs.length) S := by
  refine wp_eq ?_
  unfold lenC
  have h1 : itA S (.ref l) = none := by unfold itA tupD seqL; simp only [h]; rfl
  simp only [h1, dct_at h]
theorem setD_wp {S : Sto} {Q : Unit → Sto → Prop} {E : Nat → Sto → Prop} {l : Nat} {kvs : List (DK × D)} {nm : Str} {v : D} (h : S.objs[l]? = some (.dct false kvs)) (hl : S.locked l = false) (hz : kvs.length < sizeLine) : wp (setO (.ref l) (.str nm) v) S Q E = Q () (S.put l (.dct false (put kvs (.k (.inr nm)) v))) := by
  refine wp_eq ?_
  unfold setO
  simp only [hl, h, Bool.false_eq_true, if_false]
  show (match keyD false (D.str nm) with
    | some k => if kvs.length < sizeLine then Fd.R.ok () (S.put l (.dct false (put kvs k v))) else .stk
    | none => .stk) = _
  show (if kvs.length < sizeLine then Fd.R.ok () (S.put l (.dct false (put kvs (.k (.inr nm)) v))) else .stk) = _
  rw [if_pos hz]
theorem add_wp {S : Sto} {Q : D → Sto → Prop} {E : Nat → Sto → Prop} {lc lb lu : Nat} {kvs : List (DK × D)} {cuts : List D} {r : Int} {nm : Str} {len : Int} (h : Cup S lc lb lu kvs cuts r) (hz : kvs.length < 20)
    (k1 : (val kvs (.k (.inr nm))).isSome = true ∨ len < 10 → E 0 S) (k2 : ¬((val kvs (.k (.inr nm))).isSome = true ∨ len < 10) → Q .non (S.put lb (.dct false (put kvs (.k (.inr nm)) (.int len))))) : wp (D_CupboardAdd [.ref lc, .str nm, .int len]) S Q E := by
  have hv : ∀ {Q : D → Sto → Prop} {E : Nat → Sto → Prop}, wp (fldO 1 "bolts" (.ref lc)) S Q E = Q (.ref lb) S := wp_eq (cup_fld h).1
  have h20 : ¬ ((20 : Int) ≤ (kvs.length : Int)) := by omega
  unfold D_CupboardAdd bodyD dn_CupboardAdd
  rw [show startD 3 [D.ref lc, .str nm, .int len] = [some (D.ref lc), some (.str nm), some (.int len)] from rfl]
  simp only [seqS, ifS, orT, tst1, bin2, fldE, callE, consA, nilA, cst, getV, asgS, subG, skip, wp_bind, wp_pure, wp_ite, wp_exc, List.getElem?_cons_zero, List.getElem?_cons_succ, hv, in_wp h.b, wp_asB, wp_ltI, wp_geI, lenD_wp h.b, setD_wp h.b h.ul.2.1 (show kvs.length < sizeLine from Nat.lt_trans hz (by decide)), decide_eq_true_eq, h20, if_false]
  by_cases c1 : (val kvs (.k (.inr nm))).isSome = true
  · simp only [c1, if_true]
    exact k1 (.inl c1)
  · by_cases c2 : len < 10
    · simp only [c1, c2, if_true, if_false]
      exact k1 (.inr c2)
    · simp only [c1, c2, if_false]
      exact k2 fun z => z.elim c1 c2
theorem setF_wp {S : Sto} {Q : Unit → Sto → Prop} {E : Nat → Sto → Prop} {l : Nat} {fs : List (Str × D)} {f : Str} {d : D} (h : S.objs[l]? = some (.ins 1 fs)) (hl : S.locked l = false) (hz : fs.length < 1000) : wp (setFld 1 f (.ref l) d) S Q E = Q () (S.put l (.ins 1 (putFd f d fs))) := by
  refine wp_eq ?_
  unfold setFld getF
  simp only [h, if_true]
  rw [if_pos ⟨hz, hl⟩]
theorem newD_wp {S : Sto} {Q : D → Sto → Prop} {E : Nat → Sto → Prop} : wp (newD false) S Q E = Q (.ref S.n) (S.push (.dct false [])) := rfl
/-- the store behind Cupboard() -/
def cupS (S : Sto) : Sto := ⟨S.objs ++ [.ins 1 (cupF (S.n + 1) (S.n + 2) 0), .dct false [], .lst []], S.lck⟩
theorem init_wp {S : Sto} {Q : D → Sto → Prop} {E : Nat → Sto → Prop} (hl : S.locked S.n = false) (k : Q .non (cupS S)) : wp (D_CupboardInit [.ref S.n]) (S.push (.ins 1 [])) Q E := by
  have z : (0 ≤ sizeLine) = True := eq_true (Nat.zero_le _)
  unfold D_CupboardInit bodyD dn_CupboardInit
  rw [show startD 1 [D.ref S.n] = [some (D.ref S.n)] from rfl]
  simp only [seqS, fldS, newDE, lstO, nilA, cst, getV, wp_bind, wp_pure, wp_ite, List.getElem?_cons_zero, newD_wp, newL_wp, List.length_nil, z, if_true]
  have e1 : ((S.push (.ins 1 [])).push (.dct false [])).objs[S.n]? = some (.ins 1 []) := by
    show ((S.objs ++ [_]) ++ [_])[S.objs.length]? = _
    rw [List.append_assoc, List.getElem?_append_right (Nat.le_refl _), Nat.sub_self]
    rfl
  rw [setF_wp e1 hl (by decide)]
  have q1 : (((S.push (.ins 1 [])).push (.dct false [])).put S.n (.ins 1 (putFd "bolts" (.ref (S.push (.ins 1 [])).n) []))) = ⟨S.objs ++ [.ins 1 [("bolts", .ref (S.n + 1))], .dct false []], S.lck⟩ := by
    show (⟨((S.objs ++ [_]) ++ [_]).set S.objs.length _, S.lck⟩ : Sto) = _
    rw [List.append_assoc, List.set_append_right _ _ (Nat.le_refl _), Nat.sub_self, Sto.push_n]
    rfl
  rw [q1]
  have e2 : ((⟨S.objs ++ [.ins 1 [("bolts", .ref (S.n + 1))], .dct false []], S.lck⟩ : Sto).push (.lst [])).objs[S.n]? = some (.ins 1 [("bolts", .ref (S.n + 1))]) := by
    show ((S.objs ++ [_, _]) ++ [_])[S.objs.length]? = _
    rw [List.append_assoc, List.getElem?_append_right (Nat.le_refl _), Nat.sub_self]
    rfl
  rw [setF_wp e2 hl (show 1 < 1000 by decide)]
  have n2 : (⟨S.objs ++ [.ins 1 [("bolts", .ref (S.n + 1))], .dct false []], S.lck⟩ : Sto).n = S.n + 2 := by
    show (S.objs ++ [_, _]).length = _
    rw [List.length_append]
    rfl
  have q2 : (((⟨S.objs ++ [.ins 1 [("bolts", .ref (S.n + 1))], .dct false []], S.lck⟩ : Sto).push (.lst [])).put S.n (.ins 1 (putFd "cuts" (.ref (⟨S.objs ++ [.ins 1 [("bolts", .ref (S.n + 1))], .dct false []], S.lck⟩ : Sto).n) [("bolts", .ref (S.n + 1))]))) = ⟨S.objs ++ [.ins 1 [("bolts", .ref (S.n + 1)), ("cuts", .ref (S.n + 2))], .dct false [], .lst []], S.lck⟩ := by
    rw [n2]
    show (⟨((S.objs ++ [_, _]) ++ [_]).set S.objs.length _, S.lck⟩ : Sto) = _
    rw [List.append_assoc, List.set_append_right _ _ (Nat.le_refl _), Nat.sub_self]
    rfl
  rw [q2]
  have e3 : (⟨S.objs ++ [.ins 1 [("bolts", .ref (S.n + 1)), ("cuts", .ref (S.n + 2))], .dct false [], .lst []], S.lck⟩ : Sto).objs[S.n]? = some (.ins 1 [("bolts", .ref (S.n + 1)), ("cuts", .ref (S.n + 2))]) := by
    show (S.objs ++ [_, _, _])[S.objs.length]? = _
    rw [List.getElem?_append_right (Nat.le_refl _), Nat.sub_self]
    rfl
  rw [setF_wp e3 hl (show 2 < 1000 by decide)]
  have q3 : (⟨S.objs ++ [.ins 1 [("bolts", .ref (S.n + 1)), ("cuts", .ref (S.n + 2))], .dct false [], .lst []], S.lck⟩ : Sto).put S.n (.ins 1 (putFd "rags" (.int 0) [("bolts", .ref (S.n + 1)), ("cuts", .ref (S.n + 2))])) = cupS S := by
    show (⟨(S.objs ++ [_, _, _]).set S.objs.length _, S.lck⟩ : Sto) = _
    rw [List.set_append_right _ _ (Nat.le_refl _), Nat.sub_self]
    rfl
  rw [q3]
  exact k
theorem lockQ_wp {α : Type} {g : En → Sto → Option Nat} {f : En → M α} {σ : En} {S : Sto} {Q : α → Sto → Prop} {E : Nat → Sto → Prop} {l : Nat} {o : SO} (hg : g σ S = some l) (hl : S.locked l = false) (ho : S.objs[l]? = some o) (hc : isCont o = true)
    (h : wp (f σ) { S with lck := l :: S.lck } (fun a S' => S'.lck = l :: S.lck ∧ Q a { S' with lck := S.lck }) fun _ _ => False) : wp (lockQ g f σ) S Q E := by
  unfold wp at h ⊢
  unfold lockQ lockM
  simp only [hg, hl, ho, hc, Bool.false_eq_true, if_false, if_true]
  cases e : f σ { S with lck := l :: S.lck } with
  | stk => rw [e] at h; exact h.elim
  | exc c S' => rw [e] at h; exact h.elim
  | ok a S' =>
    rw [e] at h
    simp only [h.1, if_true]
    exact h.2
theorem Cup.lck {S : Sto} {lc lb lu : Nat} {kvs : List (DK × D)} {cuts : List D} {r : Int} (h : Cup S lc lb lu kvs cuts r) : locF 0 1 "cuts" [some (.ref lc)] S = some lu ∧ locF 0 1 "bolts" [some (.ref lc)] S = some lb := by
  refine ⟨?_, ?_⟩
  · unfold locF getF
    simp only [List.getElem?_cons_zero, h.c, if_true]
    show locD S (.ref lu) = _
    unfold locD
    simp only [h.u]
  · unfold locF getF
    simp only [List.getElem?_cons_zero, h.c, if_true]
    show locD S (.ref lb) = _
    unfold locD
    simp only [h.b]
theorem sum_nonneg : ∀ (l : List Int), (∀ x ∈ l, 0 ≤ x) → 0 ≤ l.sum
  | [], _ => Int.le_refl _
  | x :: l, h => by
    rw [List.sum_cons]
    have := h x List.mem_cons_self
    have := sum_nonneg l fun y hy => h y (List.mem_cons_of_mem _ hy)
    omega
theorem wp_genSum {bod : D → M (Option D)} {S : Sto} {Q : D → Sto → Prop} {E : Nat → Sto → Prop} (f : D → Option Int) : ∀ (ds ys : List D), (∀ d ∈ ds, bod d S = .ok ((f d).map D.int) S) → (∀ d ∈ ds, ∀ x, f d = some x → 0 ≤ x) → 0 ≤ (ys.map dI).sum → (ys.map dI).sum + (ds.filterMap f).sum < 2 ^ 63 →
    Q (.int ((ys.map dI).sum + (ds.filterMap f).sum)) S → wp (genL bod chkSum finSum ys ds) S Q E
  | [], ys, _, _, _, _, h => by
    rw [List.filterMap_nil, List.sum_nil, Int.add_zero] at h
    exact h
  | d :: ds, ys, hb, hp, h0, hs, h => by
    unfold genL
    rw [wp_bind]
    refine wp_nox (wp_of (hb d List.mem_cons_self) ?_)
    have hb' := fun x hx => hb x (List.mem_cons_of_mem d hx)
    have hp' := fun x hx => hp x (List.mem_cons_of_mem d hx)
    cases ef : f d with
    | none =>
      rw [List.filterMap_cons, ef] at h hs
      exact wp_genSum f ds ys hb' hp' h0 hs h
    | some x =>
      rw [List.filterMap_cons, ef] at h hs
      simp only [List.sum_cons] at h hs
      have hx := hp d List.mem_cons_self x ef
      have hr : 0 ≤ (ds.filterMap f).sum := sum_nonneg _ fun y hy => by
        obtain ⟨z, hz, ez⟩ := List.mem_filterMap.mp hy
        exact hp' z hz y ez
      have hc : chkSum ys (.int x) = some none := by
        show (if (inLong x && inLong ((ys.map dI).sum + x)) = true then some none else none) = _
        rw [if_pos]
        unfold inLong
        simp only [Bool.and_eq_true, decide_eq_true_eq]
        refine ⟨⟨?_, ?_⟩, ?_, ?_⟩ <;> omega
      simp only [Option.map_some, hc]
      have e : ((ys ++ [D.int x]).map dI).sum = (ys.map dI).sum + x := by
        rw [List.map_append, List.sum_append]
        show _ + (x + 0) = _
        omega
      refine wp_genSum f ds (ys ++ [.int x]) hb' hp' (by rw [e]; omega) (by rw [e]; omega) ?_
      rw [e, Int.add_assoc]
      exact h
theorem eqv_str (a b : Str) : PyData.eqv (.str a) (.str b) = decide (a = b) := by
  unfold PyData.eqv
  first | rfl | simp | (by_cases h : a = b <;> simp [h])
theorem eqS_wp {S : Sto} {Q : D → Sto → Prop} {E : Nat → Sto → Prop} (a b : Str) : wp (eqA (.str a) (.str b)) S Q E = Q (.bl (decide (a = b))) S := by
  refine wp_eq ?_
  show Fd.R.ok (D.bl (PyData.eqv (.str a) (.str b))) S = _
  rw [eqv_str]
theorem neS_wp {S : Sto} {Q : D → Sto → Prop} {E : Nat → Sto → Prop} (a b : Str) : wp (neA (.str a) (.str b)) S Q E = Q (.bl (!decide (a = b))) S := by
  refine wp_eq ?_
  show Fd.R.ok (D.bl (!PyData.eqv (.str a) (.str b))) S = _
  rw [eqv_str]
theorem run_of {α : Type} {m : M α} {S S' : Sto} {a : α} (h : ∀ (Q : α → Sto → Prop) (E : Nat → Sto → Prop), Q a S' → wp m S Q E) : m S = .ok a S' := by
  obtain ⟨b, S1, e, h1⟩ := wp_out (h (fun x y => x = a ∧ y = S') (fun _ _ => False) ⟨rfl, rfl⟩)
  rw [e, h1.1, h1.2]
def cut3 (p : Str × Str × Int) : D := .tup [.str p.1, .str p.2.1, .int p.2.2]
theorem itRef_wp {S : Sto} {Q : List D → Sto → Prop} {E : Nat → Sto → Prop} {l : Nat} {ds : List D} (h : S.objs[l]? = some (.lst ds)) (hl : S.locked l = true) : wp (itemsOf (.ref l)) S Q E = Q ds S := by
  refine wp_eq ?_
  unfold itemsOf
  simp only [hl, h, if_true]
/-- how much of a cut was for something -/
def cutFn (what : Str) : D → Option Int := fun d => match d with | .tup [_, .str w, .int n] => if w = what then some n else none | _ => none
theorem cutFor_wp {S : Sto} {Q : D → Sto → Prop} {E : Nat → Sto → Prop} {lc lb lu : Nat} {kvs : List (DK × D)} {cs : List (Str × Str × Int)} {r : Int} {what : Str} (h : Cup S lc lb lu kvs (cs.map cut3) r) (hp : ∀ p ∈ cs, 0 ≤ p.2.2)
    (hs : ((cs.map cut3).filterMap (cutFn what)).sum < 2 ^ 63)
    (k : Q (.int ((cs.map cut3).filterMap (cutFn what)).sum) S) : wp (D_CupboardCutFor [.ref lc, .str what]) S Q E := by
  obtain ⟨f, hf⟩ : ∃ f : D → Option Int, f = cutFn what := ⟨_, rfl⟩
  rw [← hf] at hs k
  unfold cutFn at hf
  unfold D_CupboardCutFor bodyD dn_CupboardCutFor
  rw [show startD 5 [D.ref lc, .str what] = [some (D.ref lc), some (.str what), none, none, none] from rfl]
  simp only [retS, wp_bind, wp_pure]
  have hg : locF 0 1 "cuts" [some (.ref lc), some (.str what), none, none, none] S = some lu := h.lck.1
  refine lockQ_wp hg h.ul.2.2 h.u rfl ?_
  have hv : ∀ {Q : D → Sto → Prop} {E : Nat → Sto → Prop}, wp (fldO 1 "cuts" (.ref lc)) { S with lck := lu :: S.lck } Q E = Q (.ref lu) { S with lck := lu :: S.lck } := wp_eq (by unfold fldO getF; simp only [h.c, if_true]; rfl)
  have hk : ({ S with lck := lu :: S.lck } : Sto).locked lu = true := by simp
  simp only [genE, itSeq, fldE, getV, wp_bind, wp_pure, List.getElem?_cons_zero, hv]
  rw [itRef_wp (S := { S with lck := lu :: S.lck }) h.u hk]
  refine wp_genSum f _ _ (fun d hd => ?_) (fun d hd x hx => ?_) (Int.le_refl _) (by simpa using hs) ⟨rfl, by simpa using k⟩
  · obtain ⟨p, _, rfl⟩ := List.mem_map.mp hd
    refine run_of fun Q E hq => ?_
    have t3 : tupD (cut3 p) = some [.str p.1, .str p.2.1, .int p.2.2] := rfl
    simp only [bodG, tupG, t3, List.length_cons, List.length_nil, consG, nilG, nameG, wipeE, tst1, bin2, getV, wp_bind, wp_pure, wp_ite, List.set_cons_zero, List.set_cons_succ, List.getElem?_cons_zero, List.getElem?_cons_succ, eqS_wp, wp_asB, decide_eq_true_eq, show ((0 : Nat) + 1 + 1 + 1 = 3) = True from eq_true rfl, if_true]
    rw [hf] at hq
    by_cases hw : p.2.1 = what
    · rw [if_pos hw]
      simp only [cut3, hw, if_true, Option.map_some] at hq
      exact hq
    · rw [if_neg hw]
      simp only [cut3, hw, if_false, Option.map_none] at hq
      exact hq
  · obtain ⟨p, hp2, rfl⟩ := List.mem_map.mp hd
    rw [hf] at hx
    simp only [cut3] at hx
    by_cases hw : p.2.1 = what
    · rw [if_pos hw] at hx
      cases hx
      exact hp p hp2
    · rw [if_neg hw] at hx
      cases hx
end K04

set_option Elab.async false
set_option linter.all false
set_option maxRecDepth 100000
set_option maxHeartbeats 1000000
namespace K04
open PySem PySem.Spec PyProof.Rows L2 LamX Fd
/-! ### dicts as lists of pairs -/
theorem val_none_any {kvs : List (DK × D)} {k : DK} (h : val kvs k = none) : (kvs.any fun p => decide (p.1 = k)) = false := by
  unfold val at h
  cases e : kvs.find? fun p => decide (p.1 = k) with
  | some p => rw [e] at h; cases h
  | none =>
    rw [List.find?_eq_none] at e
    rw [List.any_eq_false]
    exact e
theorem put_new {kvs : List (DK × D)} {k : DK} {v : D} (h : val kvs k = none) : Fd.put kvs k v = kvs ++ [(k, v)] := by
  unfold Fd.put
  rw [val_none_any h]
  rfl
theorem item_wp {S : Sto} {Q : D → Sto → Prop} {E : Nat → Sto → Prop} {l : Nat} {kvs : List (DK × D)} {nm : Str} {v : D} (h : S.objs[l]? = some (.dct false kvs)) (hv : val kvs (.k (.inr nm)) = some v) : wp (itemO (.ref l) (.str nm)) S Q E = Q v S := by
  refine wp_eq ?_
  unfold itemO alt2
  simp only [dct_at h, Option.isSome_some, if_true]
  unfold dgetO
  simp only [dct_at h]
  show (match val kvs (.k (.inr nm)) with
    | some d => Fd.R.ok d S
    | none => .stk) = _
  rw [hv]
theorem itemV_wp {S : Sto} {Q : D → Sto → Prop} {E : Nat → Sto → Prop} {kvs : List (DK × D)} {nm : Str} {v : D} (hv : val kvs (.k (.inr nm)) = some v) : wp (itemO (.dct false kvs) (.str nm)) S Q E = Q v S := by
  refine wp_eq ?_
  show (match val kvs (.k (.inr nm)) with
    | some d => Fd.R.ok d S
    | none => .stk) = _
  rw [hv]
theorem inV_wp {S : Sto} {Q : D → Sto → Prop} {E : Nat → Sto → Prop} {kvs : List (DK × D)} {nm : Str} : wp (notinO (.str nm) (.dct false kvs)) S Q E = Q (.bl (!(val kvs (.k (.inr nm))).isSome)) S := by
  refine wp_eq ?_
  show Fd.R.ok (D.bl (false == (val kvs (.k (.inr nm))).isSome)) S = _
  cases (val kvs (.k (.inr nm))).isSome <;> rfl
theorem val_of_nodup : ∀ {kvs : List (DK × D)} {k : DK} {v : D}, (kvs.map (·.1)).Nodup → (k, v) ∈ kvs → val kvs k = some v
  | (k0, v0) :: r, k, v, hn, hm => by
    rw [List.map_cons, List.nodup_cons] at hn
    unfold val
    rw [List.find?_cons]
    rcases List.mem_cons.mp hm with e | hm'
    · cases e
      simp
    · have hne : ¬ k0 = k := fun e => hn.1 (by rw [e]; exact List.mem_map.mpr ⟨_, hm', rfl⟩)
      simp only [hne, decide_false]
      exact val_of_nodup hn.2 hm'
/-! ### the row of a bolt: (length, name) -/
def rowOf (p : Str × Int) : D := .tup [.int p.2, .str p.1]
def rowP (p : Str × Int) : PyData := .tuple [.int p.2, .str p.1]
theorem toPy_row (S : Sto) (n : Nat) (p : Str × Int) : toPy S (n + 2) (rowOf p) = some (rowP p) := rfl
theorem pys_rows (S : Sto) : ∀ l : List (Str × Int), pysD S (l.map rowOf) = some (l.map rowP)
  | [] => rfl
  | p :: l => by
    have h := pys_rows S l
    unfold pysD at h ⊢
    rw [List.map_cons, List.mapM_cons, h]
    rfl
theorem alike_rows (l : List (Str × Int)) : alikeC (l.map rowP) = true := by
  unfold alikeC
  rw [List.all_eq_true]
  intro a ha
  rw [List.all_eq_true]
  intro b hb
  obtain ⟨p, _, rfl⟩ := List.mem_map.mp ha
  obtain ⟨q, _, rfl⟩ := List.mem_map.mp hb
  simp [rowP, PySem.W.alike, PySem.W.alikeAll]
/-! ### the least row is the first of the sorted ones -/
def pickP (a y : D × PyData) : D × PyData := if PySem.W.dataLt y.2 a.2 = true then y else a
theorem pick_assoc (x y m : D × PyData) : pickP (pickP x y) m = pickP x (pickP y m) := by
  have tr : ∀ a b c : PyData, PySem.W.dataLt a b = true → PySem.W.dataLt b c = true → PySem.W.dataLt a c = true := fun a b c h1 h2 => PyProof.Rows.lex_trans (O := PyProof.Rows.itemOrd) _ _ _ h1 h2
  have ng : ∀ a b c : PyData, PySem.W.dataLt a c = true → PySem.W.dataLt a b = true ∨ PySem.W.dataLt b c = true := fun a b c h => PyProof.Rows.lex_negTrans (O := PyProof.Rows.itemOrd) _ _ _ h
  unfold pickP
  by_cases h1 : PySem.W.dataLt y.2 x.2 = true
  · by_cases h2 : PySem.W.dataLt m.2 y.2 = true
    · simp [h1, h2, tr _ _ _ h2 h1]
    · simp [h1, h2]
  · by_cases h2 : PySem.W.dataLt m.2 y.2 = true
    · simp [h1, h2]
    · by_cases h3 : PySem.W.dataLt m.2 x.2 = true
      · rcases ng _ y.2 _ h3 with z | z
        · exact absurd z h2
        · exact absurd z h1
      · simp [h1, h2, h3]
theorem head_isort : ∀ (l : List (D × PyData)) (x : D × PyData), (isort leP (x :: l)).head? = some (l.foldl pickP x)
  | [], x => rfl
  | y :: l, x => by
    have ih := head_isort l y
    show (insS leP x (isort leP (y :: l))).head? = _
    have fold : ∀ (l : List (D × PyData)) (x y : D × PyData), l.foldl pickP (pickP x y) = pickP x (l.foldl pickP y) := by
      intro l
      induction l with
      | nil => intro x y; rfl
      | cons z l ihl =>
        intro x y
        rw [List.foldl_cons, List.foldl_cons, pick_assoc, ihl]
    rw [List.foldl_cons, fold]
    cases e : isort leP (y :: l) with
    | nil => rw [e] at ih; cases ih
    | cons b t =>
      rw [e] at ih
      have hb : b = l.foldl pickP y := Option.some.inj ih
      rw [← hb]
      unfold insS leP pickP
      cases PySem.W.dataLt b.2 x.2 <;> rfl
theorem best_head (l : List (D × PyData)) : bestP PySem.W.dataLt l = (sortP l).head? := by
  cases l with
  | nil => rfl
  | cons x xs =>
    unfold sortP
    rw [List.head?_map, head_isort]
    rfl
theorem isort_len {α : Type} (le : α → α → Bool) : ∀ l : List α, (isort le l).length = l.length
  | [] => rfl
  | a :: l => by
    have ins : ∀ (b : α) (m : List α), (insS le b m).length = m.length + 1 := by
      intro b m
      induction m with
      | nil => rfl
      | cons c m ih =>
        unfold insS
        by_cases h : le b c = true
        · rw [if_pos h]; rfl
        · rw [if_neg h, List.length_cons, ih]; rfl
    show (insS le a (isort le l)).length = _
    rw [ins, isort_len le l]
    rfl
theorem sortable_rows (l : List (Str × Int)) : sortableC (l.map rowP) = true := by
  unfold sortableC
  rw [Bool.or_eq_true]
  refine .inl ?_
  rw [List.all_eq_true]
  intro a ha
  obtain ⟨p, _, rfl⟩ := List.mem_map.mp ha
  rfl
theorem nonon_rows (l : List (Str × Int)) : (l.map rowP).any isNonP = false := by
  rw [List.any_eq_false]
  intro a ha
  obtain ⟨p, _, rfl⟩ := List.mem_map.mp ha
  exact Bool.false_ne_true
/-- the rows sorted -/
def sortR (l : List (Str × Int)) : List D := sortP ((l.map rowOf).zip (l.map rowP))
theorem sorted_wp {S : Sto} {Q : D → Sto → Prop} {E : Nat → Sto → Prop} (l : List (Str × Int)) : wp (sortedA false [.lst (l.map rowOf)]) S Q E = Q (.lst (sortR l)) S := by
  refine wp_eq ?_
  show sortedC false [.lst (l.map rowOf)] S = _
  unfold sortedC
  show (match pysD S (l.map rowOf) with
    | some ps => if (alikeC ps && sortableC ps) = true then (if false = true then newL (sortP ((l.map rowOf).zip ps)) S else Fd.R.ok (.lst (sortP ((l.map rowOf).zip ps))) S) else Fd.R.stk
    | none => Fd.R.stk) = _
  rw [pys_rows]
  simp only [alike_rows, sortable_rows, Bool.and_self, if_true, Bool.false_eq_true, if_false]
  rfl
theorem minR_wp {S : Sto} {Q : D → Sto → Prop} {E : Nat → Sto → Prop} (l : List (Str × Int)) {d : D} (h : (sortR l).head? = some d) : wp (bestC PySem.W.dataLt [.lst (l.map rowOf)]) S Q E = Q d S := by
  refine wp_eq ?_
  unfold bestC
  show (match pysD S (l.map rowOf) with
    | some ps => if (alikeC ps && !ps.any isNonP) = true then (match bestP PySem.W.dataLt ((l.map rowOf).zip ps) with
      | some d => Fd.R.ok d S
      | none => Fd.R.stk) else Fd.R.stk
    | none => Fd.R.stk) = _
  rw [pys_rows]
  simp only [alike_rows, nonon_rows, Bool.not_false, Bool.and_self, if_true]
  rw [best_head, show (sortP ((l.map rowOf).zip (l.map rowP))).head? = some d from h]
/-! ### the bolts -/
def kvOf (p : Str × Int) : DK × D := (.k (.inr p.1), .int p.2)
theorem val_bs {bs : List (Str × Int)} {p : Str × Int} (hn : (bs.map (·.1)).Nodup) (hm : p ∈ bs) : val (bs.map kvOf) (.k (.inr p.1)) = some (.int p.2) := by
  refine val_of_nodup ?_ (List.mem_map.mpr ⟨p, hm, rfl⟩)
  rw [List.map_map]
  have e : bs.map ((·.1) ∘ kvOf) = (bs.map (·.1)).map fun x => DK.k (.inr x) := by rw [List.map_map]; rfl
  rw [e]
  exact (List.pairwise_map.mpr (hn.imp fun h z => h (by cases z; rfl)))
theorem val_bs_none {bs : List (Str × Int)} {nm : Str} (h : nm ∉ bs.map (·.1)) : val (bs.map kvOf) (.k (.inr nm)) = none := by
  unfold val
  rw [Option.map_eq_none_iff, List.find?_eq_none]
  intro q hq
  obtain ⟨p, hp, rfl⟩ := List.mem_map.mp hq
  intro z
  have z := of_decide_eq_true z
  have z : DK.k (.inr p.1) = DK.k (.inr nm) := z
  cases z
  exact h (List.mem_map.mpr ⟨p, hp, rfl⟩)
theorem filterMap_rows (bs : List (Str × Int)) (len : Int) (f : D → Option D) (hf : ∀ p ∈ bs, f (.str p.1) = if len ≤ p.2 then some (rowOf p) else none) : ((bs.map kvOf).map fun p => dkD p.1).filterMap f = (bs.filter fun p => decide (len ≤ p.2)).map rowOf := by
  induction bs with
  | nil => rfl
  | cons p bs ih =>
    have h1 := hf p List.mem_cons_self
    have h2 := ih fun q hq => hf q (List.mem_cons_of_mem _ hq)
    show (D.str p.1 :: (bs.map kvOf).map fun p => dkD p.1).filterMap f = _
    rw [List.filterMap_cons, h1, List.filter_cons]
    by_cases h : len ≤ p.2
    · rw [if_pos h, if_pos (decide_eq_true h), h2]
      rfl
    · rw [if_neg h, if_neg (by rw [decide_eq_false h]; exact Bool.false_ne_true), h2]
end K04

set_option Elab.async false
set_option linter.all false
set_option maxRecDepth 100000
set_option maxHeartbeats 1000000
namespace K04
open PySem PySem.Spec PyProof.Rows L2 LamX Fd
/-! ### cut: the rows -/
theorem itDct_wp {S : Sto} {Q : List D → Sto → Prop} {E : Nat → Sto → Prop} {l : Nat} {kvs : List (DK × D)} (h : S.objs[l]? = some (.dct false kvs)) (hl : S.locked l = true) : wp (itemsOf (.ref l)) S Q E = Q (kvs.map fun p => dkD p.1) S := by
  refine wp_eq ?_
  unfold itemsOf
  simp only [hl, h, if_true]
theorem tup2_wp {S : Sto} {Q : D → Sto → Prop} {E : Nat → Sto → Prop} {fa fb : En → M D} {σ : En} : wp (tupV (consA fa (consA fb nilA)) σ) S Q E = wp (fa σ) S (fun a S1 => wp (fb σ) S1 (fun b S2 => Q (.tup [a, b]) S2) E) E := by
  simp only [tupV, consA, nilA, wp_bind, wp_pure, wp_ite, List.length_cons, List.length_nil, show (0 + 1 + 1 ≤ sizeLine) = True from eq_true (by decide), if_true]
/-- the first statement of cut: rows in slot 3 -/
theorem cutRows_wp {S : Sto} {Q : Fl → Sto → Prop} {E : Nat → Sto → Prop} {lc lb lu : Nat} {bs : List (Str × Int)} {cuts : List D} {r : Int} {what : Str} {len : Int} (h : Cup S lc lb lu (bs.map kvOf) cuts r) (hn : (bs.map (·.1)).Nodup) (hz : bs.length ≤ sizeLine)
    (k : Q (.nx [some (.ref lc), some (.str what), some (.int len), some (.lst ((bs.filter fun p => decide (len ≤ p.2)).map rowOf)), none]) S) :
    wp (lockQ (locF 0 1 "bolts") (setS 3 (genE (itSeq (fldE 1 "bolts" (getV 0))) [4] (nameG 4) (tst1 (bin2 geI (bin2 itemO (fldE 1 "bolts" (getV 0)) (getV 4)) (getV 2))) (tupV (consA (bin2 itemO (fldE 1 "bolts" (getV 0)) (getV 4)) (consA (getV 4) nilA))) chkAll finLst)) [some (.ref lc), some (.str what), some (.int len), none, none]) S Q E := by
  have hg : locF 0 1 "bolts" [some (.ref lc), some (.str what), some (.int len), none, none] S = some lb := h.lck.2
  refine lockQ_wp hg h.ul.2.1 h.b rfl ?_
  have hv : ∀ {Q : D → Sto → Prop} {E : Nat → Sto → Prop}, wp (fldO 1 "bolts" (.ref lc)) { S with lck := lb :: S.lck } Q E = Q (.ref lb) { S with lck := lb :: S.lck } := wp_eq (by unfold fldO getF; simp only [h.c, if_true]; rfl)
  have hk : ({ S with lck := lb :: S.lck } : Sto).locked lb = true := by simp
  simp only [setS, genE, itSeq, fldE, getV, wp_bind, wp_pure, List.getElem?_cons_zero, hv]
  rw [itDct_wp (S := { S with lck := lb :: S.lck }) h.b hk]
  refine wp_genP (fun d => match d with
    | .str nm => (match val (bs.map kvOf) (.k (.inr nm)) with
      | some (.int n) => if len ≤ n then some (rowOf (nm, n)) else none
      | _ => none)
    | _ => none) _ _ (fun d hd => ?_) (by rw [List.length_map, List.length_map]; simpa using hz) ?_
  · obtain ⟨q, hq, rfl⟩ := List.mem_map.mp hd
    obtain ⟨p, hp, rfl⟩ := List.mem_map.mp hq
    have hval := val_bs hn hp
    have hit : ∀ {Q : D → Sto → Prop} {E : Nat → Sto → Prop}, wp (itemO (.ref lb) (.str p.1)) { S with lck := lb :: S.lck } Q E = Q (.int p.2) { S with lck := lb :: S.lck } := item_wp h.b hval
    refine run_of fun Q E hq => ?_
    have hd : dkD (kvOf p).1 = .str p.1 := rfl
    rw [hd] at hq ⊢
    simp only [hval] at hq
    simp only [bodG, nameG, wipeE, tst1, bin2, fldE, getV, wp_bind, wp_pure, wp_ite, tup2_wp, List.set_cons_zero, List.set_cons_succ, List.getElem?_cons_zero, List.getElem?_cons_succ, hv, hit, wp_geI, wp_asB, decide_eq_true_eq]
    by_cases hl : len ≤ p.2
    · rw [if_pos hl] at hq ⊢
      exact hq
    · rw [if_neg hl] at hq ⊢
      exact hq
  · rw [filterMap_rows bs len _ fun p hp => by simp only [val_bs hn hp]]
    exact ⟨rfl, k⟩
theorem mapM_rows (S : Sto) (n : Nat) : ∀ l : List (Str × Int), (l.map rowOf).mapM (toPy S (n + 2)) = some (l.map rowP)
  | [] => rfl
  | p :: l => by
    rw [List.map_cons, List.mapM_cons, mapM_rows S n l]
    rfl
theorem rowsNil_wp {S : Sto} {Q : D → Sto → Prop} {E : Nat → Sto → Prop} (l : List (Str × Int)) : wp (eqA (.lst (l.map rowOf)) (.lst [])) S Q E = Q (.bl l.isEmpty) S := by
  rw [eqNil_wp (mapM_rows S 9 l)]
  cases l <;> rfl
end K04

set_option Elab.async false
set_option linter.all false
set_option maxRecDepth 100000
set_option maxHeartbeats 1000000
namespace K04
open PySem PySem.Spec PyProof.Rows L2 LamX Fd
/-! ### cut -/
theorem insS_mem {α : Type} (le : α → α → Bool) (a x : α) : ∀ l : List α, x ∈ insS le a l ↔ x = a ∨ x ∈ l
  | [] => by show x ∈ [a] ↔ _; simp
  | b :: l => by
    unfold insS
    by_cases h : le a b = true
    · rw [if_pos h]; simp
    · rw [if_neg h, List.mem_cons, insS_mem le a x l, List.mem_cons]
      constructor
      · rintro (h | h | h)
        · exact .inr (.inl h)
        · exact .inl h
        · exact .inr (.inr h)
      · rintro (h | h | h)
        · exact .inr (.inl h)
        · exact .inl h
        · exact .inr (.inr h)
theorem isort_mem {α : Type} (le : α → α → Bool) (x : α) : ∀ l : List α, x ∈ isort le l ↔ x ∈ l
  | [] => Iff.rfl
  | a :: l => by
    show x ∈ insS le a (isort le l) ↔ _
    rw [insS_mem, isort_mem le x l, List.mem_cons]
theorem sortP_mem {d : D} {z : List (D × PyData)} : d ∈ sortP z ↔ ∃ p, (d, p) ∈ z := by
  unfold sortP
  rw [List.mem_map]
  constructor
  · rintro ⟨⟨a, p⟩, h, rfl⟩
    exact ⟨p, (isort_mem _ _ _).mp h⟩
  · rintro ⟨p, h⟩
    exact ⟨(d, p), (isort_mem _ _ _).mpr h, rfl⟩
theorem zip_self {α β γ : Type} (f : α → β) (g : α → γ) : ∀ l : List α, (l.map f).zip (l.map g) = l.map fun x => (f x, g x)
  | [] => rfl
  | a :: l => by rw [List.map_cons, List.map_cons, List.zip_cons_cons, zip_self f g l, List.map_cons]
theorem sortR_mem {d : D} {l : List (Str × Int)} (h : d ∈ sortR l) : ∃ p ∈ l, d = rowOf p := by
  obtain ⟨q, h⟩ := sortP_mem.mp h
  rw [zip_self] at h
  obtain ⟨p, hp, e⟩ := List.mem_map.mp h
  cases e
  exact ⟨p, hp, rfl⟩
theorem sortR_len (l : List (Str × Int)) : (sortR l).length = l.length := by
  unfold sortR sortP
  rw [List.length_map, isort_len, zip_self, List.length_map]
theorem sortR_head {l : List (Str × Int)} (h : l ≠ []) : ∃ p ∈ l, (sortR l).head? = some (rowOf p) := by
  have hl := sortR_len l
  cases e : sortR l with
  | nil =>
    rw [e] at hl
    exact absurd (List.eq_nil_of_length_eq_zero hl.symm) h
  | cons d r =>
    obtain ⟨p, hp, hd⟩ := sortR_mem (l := l) (d := d) (by rw [e]; exact List.mem_cons_self)
    exact ⟨p, hp, by rw [hd]; rfl⟩
section
variable {S : Sto} {E : Nat → Sto → Prop} {lc lb lu : Nat} {kvs : List (DK × D)} {cuts : List D} {r : Int}
theorem Cup.ne (h : Cup S lc lb lu kvs cuts r) : lc ≠ lb ∧ lc ≠ lu ∧ lb ≠ lu := by
  refine ⟨fun e => ?_, fun e => ?_, fun e => ?_⟩
  · subst e; have := h.c.symm.trans h.b; cases this
  · subst e; have := h.c.symm.trans h.u; cases this
  · subst e; have := h.b.symm.trans h.u; cases this
theorem lt_of_get {α : Type} {l : List α} {i : Nat} {a : α} (h : l[i]? = some a) : i < l.length := (List.getElem?_eq_some_iff.mp h).1
theorem Cup.putB (h : Cup S lc lb lu kvs cuts r) (kvs' : List (DK × D)) : Cup (S.put lb (.dct false kvs')) lc lb lu kvs' cuts r :=
  ⟨by rw [put_ne h.ne.1.symm]; exact h.c, put_at (lt_of_get h.b), by rw [put_ne h.ne.2.2]; exact h.u, h.ul⟩
theorem Cup.putU (h : Cup S lc lb lu kvs cuts r) (cuts' : List D) : Cup (S.put lu (.lst cuts')) lc lb lu kvs cuts' r :=
  ⟨by rw [put_ne h.ne.2.1.symm]; exact h.c, by rw [put_ne h.ne.2.2.symm]; exact h.b, put_at (lt_of_get h.u), h.ul⟩
theorem Cup.putR (h : Cup S lc lb lu kvs cuts r) (r' : Int) : Cup (S.put lc (.ins 1 (cupF lb lu r'))) lc lb lu kvs cuts r' :=
  ⟨put_at (lt_of_get h.c), by rw [put_ne h.ne.1]; exact h.b, by rw [put_ne h.ne.2.1]; exact h.u, h.ul⟩
/-- nothing but the cupboard has changed -/
structure Fr (S S' : Sto) (lc lb lu : Nat) : Prop where
  k : S'.lck = S.lck
  n : S'.objs.length = S.objs.length
  o : ∀ j, j ≠ lc → j ≠ lb → j ≠ lu → S'.objs[j]? = S.objs[j]?
theorem Fr.refl (S : Sto) (lc lb lu : Nat) : Fr S S lc lb lu := ⟨rfl, rfl, fun _ _ _ _ => rfl⟩
theorem Fr.put {S S' : Sto} (h : Fr S S' lc lb lu) {l : Nat} {o : SO} (hl : l = lc ∨ l = lb ∨ l = lu) : Fr S (S'.put l o) lc lb lu :=
  ⟨h.k, by show (S'.objs.set l o).length = _; rw [List.length_set]; exact h.n, fun j h1 h2 h3 => by rw [put_ne (fun e => by subst e; rcases hl with e | e | e <;> contradiction)]; exact h.o j h1 h2 h3⟩
theorem dget_wp {Q : D → Sto → Prop} {l : Nat} {nm : Str} {v : D} (h : S.objs[l]? = some (.dct false kvs)) (hv : val kvs (.k (.inr nm)) = some v) : wp (dgetO (.ref l) (.str nm)) S Q E = Q v S := by
  refine wp_eq ?_
  unfold dgetO
  simp only [dct_at h]
  show (match val kvs (.k (.inr nm)) with
    | some d => Fd.R.ok d S
    | none => .stk) = _
  rw [hv]
theorem fldB_wp {Q : D → Sto → Prop} (h : Cup S lc lb lu kvs cuts r) : wp (fldO 1 "bolts" (.ref lc)) S Q E = Q (.ref lb) S := wp_eq (cup_fld h).1
theorem fldU_wp {Q : D → Sto → Prop} (h : Cup S lc lb lu kvs cuts r) : wp (fldO 1 "cuts" (.ref lc)) S Q E = Q (.ref lu) S := wp_eq (cup_fld h).2.1
theorem fldR_wp {Q : D → Sto → Prop} (h : Cup S lc lb lu kvs cuts r) : wp (fldO 1 "rags" (.ref lc)) S Q E = Q (.int r) S := wp_eq (cup_fld h).2.2
theorem augC_wp {Q : Fl → Sto → Prop} {nm : Str} {n len : Int} {what rows : D} (h : Cup S lc lb lu kvs cuts r) (hv : val kvs (.k (.inr nm)) = some (.int n)) (hz : kvs.length < sizeLine) :
    wp (augSubS subI (fldE 1 "bolts" (getV 0)) (getV 4) (getV 2) [some (.ref lc), some what, some (.int len), some rows, some (.str nm)]) S Q E = Q (.nx [some (.ref lc), some what, some (.int len), some rows, some (.str nm)]) (S.put lb (.dct false (Fd.put kvs (.k (.inr nm)) (.int (n - len))))) := by
  simp only [augSubS, fldE, getV, wp_bind, wp_pure, List.getElem?_cons_zero, List.getElem?_cons_succ, fldB_wp h, dget_wp h.b hv, wp_subI, setD_wp h.b h.ul.2.1 hz]
theorem tup3_wp {Q : D → Sto → Prop} {fa fb fc : En → M D} {σ : En} : wp (tupV (consA fa (consA fb (consA fc nilA))) σ) S Q E = wp (fa σ) S (fun a S1 => wp (fb σ) S1 (fun b S2 => wp (fc σ) S2 (fun c S3 => Q (.tup [a, b, c]) S3) E) E) E := by
  simp only [tupV, consA, nilA, wp_bind, wp_pure, wp_ite, List.length_cons, List.length_nil, show (0 + 1 + 1 + 1 ≤ sizeLine) = True from eq_true (by decide), if_true]
theorem chkL_wp {Q : Unit → Sto → Prop} {l : Nat} {ds : List D} (h : S.objs[l]? = some (.lst ds)) (hl : S.locked l = false) : wp (chkTy "list" (.ref l)) S Q E = Q () S := by
  refine wp_eq ?_
  unfold chkTy
  rw [if_pos]
  unfold tyC seqL
  simp only [hl, h, Bool.false_eq_true, if_false]
  rfl
theorem chkD_wp {Q : Unit → Sto → Prop} {l : Nat} (h : S.objs[l]? = some (.dct false kvs)) (hl : S.locked l = false) : wp (chkTy "dict" (.ref l)) S Q E = Q () S := by
  refine wp_eq ?_
  unfold chkTy
  rw [if_pos]
  unfold tyC seqL
  simp only [hl, h, Bool.false_eq_true, if_false, dct_at h]
  rfl
theorem app_wp {Q : D → Sto → Prop} {l : Nat} {ds : List D} {y : D} (h : S.objs[l]? = some (.lst ds)) (hl : S.locked l = false) (hz : ds.length < sizeLine) : wp (appM (.ref l) [y]) S Q E = Q .non (S.put l (.lst (ds ++ [y]))) := by
  refine wp_eq ?_
  unfold appM ownL
  simp only [hl, h, Bool.false_eq_true, if_false]
  rw [if_pos hz]
theorem dpop_wp {Q : D → Sto → Prop} {l : Nat} {nm : Str} {v : D} (h : S.objs[l]? = some (.dct false kvs)) (hl : S.locked l = false) (hv : val kvs (.k (.inr nm)) = some v) : wp (dpopM (.ref l) [.str nm]) S Q E = Q v (S.put l (.dct false (drop kvs (.k (.inr nm))))) := by
  refine wp_eq ?_
  unfold dpopM ownK
  simp only [hl, h, Bool.false_eq_true, if_false]
  show (match val kvs (.k (.inr nm)) with
    | some y => Fd.R.ok y (S.put l (.dct false (drop kvs (.k (.inr nm)))))
    | none => .stk) = _
  rw [hv]
theorem ix1_wp {Q : D → Sto → Prop} (a b : D) : wp (itemO (.tup [a, b]) (.int 1)) S Q E = Q b S := wp_eq rfl
theorem ix0_wp {Q : D → Sto → Prop} (a b : D) : wp (itemO (.tup [a, b]) (.int 0)) S Q E = Q a S := wp_eq rfl
theorem setR_wp {Q : Unit → Sto → Prop} (h : Cup S lc lb lu kvs cuts r) (r' : Int) : wp (setFld 1 "rags" (.ref lc) (.int r')) S Q E = Q () (S.put lc (.ins 1 (cupF lb lu r'))) := by
  rw [setF_wp h.c h.ul.1 (show 3 < 1000 by decide)]
  rfl
end
/-! ### the bolts behind a cut -/
def cutB (bs : List (Str × Int)) (nm : Str) (left : Int) : List (Str × Int) := (bs.filter fun q => !decide (q.1 = nm) || decide (9 < left)).map fun q => (q.1, if q.1 = nm then left else q.2)
theorem key_eq (a b : Str) : (DK.k (.inr a) = DK.k (.inr b)) = (a = b) := by
  refine propext ⟨fun h => ?_, fun h => by rw [h]⟩
  cases h
  rfl
theorem put_bs {bs : List (Str × Int)} {nm : Str} {left : Int} (hm : nm ∈ bs.map (·.1)) : Fd.put (bs.map kvOf) (.k (.inr nm)) (.int left) = (bs.map fun q => (q.1, if q.1 = nm then left else q.2)).map kvOf := by
  unfold Fd.put
  rw [if_pos]
  · rw [List.map_map, List.map_map]
    refine List.map_congr_left fun q _ => ?_
    show (if (kvOf q).1 = _ then _ else _) = _
    unfold kvOf
    simp only [key_eq, Function.comp]
    by_cases h : q.1 = nm
    · simp [h]
    · simp [h]
  · obtain ⟨q, hq, e⟩ := List.mem_map.mp hm
    rw [List.any_eq_true]
    exact ⟨kvOf q, List.mem_map.mpr ⟨q, hq, rfl⟩, decide_eq_true (by unfold kvOf; rw [e])⟩
theorem drop_bs (bs : List (Str × Int)) (nm : Str) : drop (bs.map kvOf) (.k (.inr nm)) = (bs.filter fun q => !decide (q.1 = nm)).map kvOf := by
  unfold drop
  rw [List.filter_map]
  refine congrArg (List.map kvOf) (List.filter_congr fun q _ => ?_)
  show decide ((kvOf q).1 ≠ _) = _
  unfold kvOf
  simp only [ne_eq, key_eq]
  by_cases h : q.1 = nm <;> simp [h]
theorem cutB_big {bs : List (Str × Int)} {nm : Str} {left : Int} (h : 9 < left) : cutB bs nm left = bs.map fun q => (q.1, if q.1 = nm then left else q.2) := by
  unfold cutB
  rw [List.filter_eq_self.mpr fun q _ => by simp [h]]
theorem cutB_small {bs : List (Str × Int)} {nm : Str} {left : Int} (h : ¬ 9 < left) : cutB bs nm left = (bs.map fun q => (q.1, if q.1 = nm then left else q.2)).filter fun q => !decide (q.1 = nm) := by
  unfold cutB
  rw [List.filter_map]
  refine congrArg (List.map _) (List.filter_congr fun q _ => ?_)
  simp [h]
theorem cut_wp {S : Sto} {Q : D → Sto → Prop} {E : Nat → Sto → Prop} {lc lb lu : Nat} {bs : List (Str × Int)} {cuts : List D} {r : Int} {what : Str} {len : Int} (h : Cup S lc lb lu (bs.map kvOf) cuts r) (hn : (bs.map (·.1)).Nodup) (hz : bs.length < sizeLine) (hc : cuts.length < sizeLine)
    (k1 : len < 1 ∨ (bs.filter fun p => decide (len ≤ p.2)) = [] → E 0 S)
    (k2 : ∀ p S', p ∈ bs → len ≤ p.2 → 1 ≤ len → (sortR (bs.filter fun p => decide (len ≤ p.2))).head? = some (rowOf p) → Cup S' lc lb lu ((cutB bs p.1 (p.2 - len)).map kvOf) (cuts ++ [cut3 (p.1, what, len)]) (r + if p.2 - len < 10 then p.2 - len else 0) → Fr S S' lc lb lu → Q (.str p.1) S') :
    wp (D_CupboardCut [.ref lc, .str what, .int len]) S Q E := by
  obtain ⟨R, eR⟩ : ∃ R, R = bs.filter fun p => decide (len ≤ p.2) := ⟨_, rfl⟩
  unfold D_CupboardCut bodyD dn_CupboardCut
  rw [show startD 5 [D.ref lc, .str what, .int len] = [some (.ref lc), some (.str what), some (.int len), none, none] from rfl]
  rw [wp_bind]
  unfold seqS
  rw [wp_bind]
  refine cutRows_wp h hn (Nat.le_of_lt hz) ?_
  rw [← eR] at k1 k2 ⊢
  simp only [seqS, ifS, orT, tst1, bin2, lstV, nilA, getV, cst, skip, wp_bind, wp_pure, wp_ite, wp_exc, List.getElem?_cons_zero, List.getElem?_cons_succ, List.length_nil, show (0 ≤ sizeLine) = True from eq_true (Nat.zero_le _), if_true, wp_ltI, wp_asB, rowsNil_wp, decide_eq_true_eq]
  by_cases c1 : len < 1
  · rw [if_pos c1]
    first | exact k1 (.inl c1) | (simp only [if_true]; exact k1 (.inl c1))
  rw [if_neg c1]
  by_cases c2 : R = []
  · rw [c2]
    simp only [List.isEmpty_nil, if_true]
    exact k1 (.inr c2)
  have c2' : R.isEmpty = false := by cases R with
    | nil => exact absurd rfl c2
    | cons _ _ => rfl
  rw [c2']
  simp only [Bool.false_eq_true, if_false]
  obtain ⟨p, hp, hd⟩ := sortR_head c2
  rw [eR] at hp
  obtain ⟨hp, hl⟩ := List.mem_filter.mp hp
  have hl := of_decide_eq_true hl
  simp only [setS, bin2, callE, consA, nilA, getV, cst, wp_bind, wp_pure, List.getElem?_cons_zero, List.getElem?_cons_succ, List.set_cons_zero, List.set_cons_succ, minR_wp R hd, rowOf, ix1_wp]
  have hk : (bs.map kvOf).length < sizeLine := by rw [List.length_map]; exact hz
  rw [augC_wp h (val_bs hn hp) hk]
  simp only
  have hm : p.1 ∈ bs.map (·.1) := List.mem_map.mpr ⟨p, hp, rfl⟩
  rw [put_bs hm]
  obtain ⟨b2, eb⟩ : ∃ b2, b2 = bs.map fun q => (q.1, if q.1 = p.1 then p.2 - len else q.2) := ⟨_, rfl⟩
  rw [← eb]
  have h1 := h.putB (b2.map kvOf)
  have f1 := (Fr.refl S lc lb lu).put (l := lb) (o := .dct false (b2.map kvOf)) (.inr (.inl rfl))
  have hn2 : (b2.map (·.1)).Nodup := by
    rw [eb, List.map_map]
    exact hn
  have hm2 : (p.1, p.2 - len) ∈ b2 := by
    rw [eb]
    exact List.mem_map.mpr ⟨p, hp, by simp⟩
  generalize S.put lb (.dct false (b2.map kvOf)) = S1 at h1 f1 ⊢
  simp only [exprS, bmE, fldE, consA, nilA, getV, wp_bind, wp_pure, List.getElem?_cons_zero, List.getElem?_cons_succ, fldU_wp h1, chkL_wp h1.u h1.ul.2.2, tup3_wp, app_wp h1.u h1.ul.2.2 hc]
  have h2 := h1.putU (cuts ++ [.tup [.str p.1, .str what, .int len]])
  have f2 := f1.put (l := lu) (o := .lst (cuts ++ [.tup [.str p.1, .str what, .int len]])) (.inr (.inr rfl))
  generalize S1.put lu (.lst (cuts ++ [.tup [.str p.1, .str what, .int len]])) = S2 at h2 f2 ⊢
  have hv2 := val_bs hn2 hm2
  simp only [fldB_wp h2, item_wp h2.b hv2, wp_ltI, wp_asB, decide_eq_true_eq]
  by_cases c3 : p.2 - len < 10
  · rw [if_pos c3]
    simp only [fldAugS, bmE, fldE, consA, nilA, getV, wp_bind, wp_pure, List.getElem?_cons_zero, List.getElem?_cons_succ, fldR_wp h2, fldB_wp h2, chkD_wp h2.b h2.ul.2.1, dpop_wp h2.b h2.ul.2.1 hv2]
    have h3 := h2.putB (drop (b2.map kvOf) (.k (.inr p.1)))
    have f3 := f2.put (l := lb) (o := .dct false (drop (b2.map kvOf) (.k (.inr p.1)))) (.inr (.inl rfl))
    generalize S2.put lb (.dct false (drop (b2.map kvOf) (.k (.inr p.1)))) = S3 at h3 f3 ⊢
    have ad : ∀ {Q : D → Sto → Prop} {E : Nat → Sto → Prop} {S : Sto} (i j : Int), wp (addI (.int i) (.int j)) S Q E = Q (.int (i + j)) S := fun i j => wp_eq rfl
    simp only [ad, setR_wp h3, retS, getV, wp_bind, wp_pure, List.getElem?_cons_zero, List.getElem?_cons_succ]
    have h4 := h3.putR (r + (p.2 - len))
    have f4 := f3.put (l := lc) (o := .ins 1 (cupF lb lu (r + (p.2 - len)))) (.inl rfl)
    refine k2 p _ hp hl (by omega) hd ?_ f4
    rw [if_pos c3, cutB_small (by omega), ← eb, ← drop_bs]
    exact h4
  · rw [if_neg c3]
    simp only [retS, getV, wp_bind, wp_pure, List.getElem?_cons_zero, List.getElem?_cons_succ]
    refine k2 p _ hp hl (by omega) hd ?_ f2
    rw [if_neg c3, cutB_big (by omega), ← eb, Int.add_zero]
    exact h2
end K04

set_option Elab.async false
set_option linter.all false
set_option maxRecDepth 100000
set_option maxHeartbeats 1000000
namespace K04
open PySem PySem.Spec PyProof.Rows L2 LamX Fd
/-! ### small facts -/
section
variable {S : Sto} {E : Nat → Sto → Prop} {Q : D → Sto → Prop} {σ : En}
theorem told_wp {okc : Nat → Bool} {ret : Str} {fb : En → M D} : wp (toldE okc ret fb σ) S Q E = wp (fb σ) S Q fun c S' => if okc c = true then Q (.str ret) S' else False := by
  unfold wp toldE
  cases fb σ S with
  | ok d S' => rfl
  | stk => rfl
  | exc c S' =>
    simp only
    by_cases h : okc c = true
    · rw [if_pos h, if_pos h]
    · rw [if_neg h, if_neg h]
theorem chkM_wp {lc lb lu : Nat} {kvs : List (DK × D)} {cuts : List D} {r : Int} {m : Str} {Q : Unit → Sto → Prop} (h : Cup S lc lb lu kvs cuts r) (hm : (cupF lb lu r).lookup m = none) : wp (chkM 1 m (.ref lc)) S Q E = Q () S := by
  refine wp_eq ?_
  unfold chkM getF
  simp only [h.c, if_true, hm, Option.isNone_none]
theorem eqB_wp (a b : Bool) : wp (eqA (.bl a) (.bl b)) S Q E = Q (.bl (a == b)) S := by
  refine wp_eq ?_
  show Fd.R.ok (D.bl (PyData.eqv (.bool a) (.bool b))) S = _
  cases a <;> cases b <;> first | rfl | simp [PyData.eqv]
theorem eqNS_wp (b : Str) : wp (eqA .non (.str b)) S Q E = Q (.bl false) S := by
  refine wp_eq ?_
  show Fd.R.ok (D.bl (PyData.eqv .none (.str b))) S = _
  first | rfl | simp [PyData.eqv]
theorem addS_wp {a b : Str} (h : a.length + b.length ≤ sizeLine) : wp (addA (.str a) (.str b)) S Q E = Q (.str (a ++ b)) S := by
  refine wp_eq ?_
  show (if a.length + b.length ≤ sizeLine then M.pure (D.str (a ++ b)) else M.stk : M D) S = _
  rw [if_pos h]
  rfl
def nmOf (c : Str) (i : Int) : Str := c ++ toString i
theorem str_wp {i : Int} (h0 : 0 ≤ i) (h1 : i < 1000) : wp (strC [.int i]) S Q E = Q (.str (toString i)) S := by
  refine wp_eq ?_
  show (if i.natAbs.log2 < 1920 then M.pure (D.str (toString i)) else M.stk : M D) S = _
  rw [if_pos]
  · rfl
  · have h2 : i.natAbs < 2 ^ 1920 := Nat.lt_of_lt_of_le (show i.natAbs < 1000 by omega) (by decide +kernel)
    by_cases h3 : i.natAbs = 0
    · rw [h3]; decide
    · exact (Nat.log2_lt h3).mpr h2
theorem addN_wp {c : Str} {i : Int} (h0 : 0 ≤ i) (h1 : i < 8) (hc : c.length ≤ 10) : wp (addA (.str c) (.str (toString i))) S Q E = Q (.str (nmOf c i)) S := by
  refine addS_wp ?_
  have : (toString i : Str).length ≤ 1 := by
    have h : i = 0 ∨ i = 1 ∨ i = 2 ∨ i = 3 ∨ i = 4 ∨ i = 5 ∨ i = 6 ∨ i = 7 := by omega
    rcases h with rfl | rfl | rfl | rfl | rfl | rfl | rfl | rfl <;> decide +kernel
  have : 11 ≤ sizeLine := by decide
  omega
theorem nm_inj (c : Str) : ∀ i j : Int, 0 ≤ i → i < 8 → 0 ≤ j → j < 8 → (toString i : Str) = toString j → i = j := by
  intro i j h1 h2 h3 h4 e
  have h : i = 0 ∨ i = 1 ∨ i = 2 ∨ i = 3 ∨ i = 4 ∨ i = 5 ∨ i = 6 ∨ i = 7 := by omega
  have h' : j = 0 ∨ j = 1 ∨ j = 2 ∨ j = 3 ∨ j = 4 ∨ j = 5 ∨ j = 6 ∨ j = 7 := by omega
  rcases h with rfl | rfl | rfl | rfl | rfl | rfl | rfl | rfl <;> rcases h' with rfl | rfl | rfl | rfl | rfl | rfl | rfl | rfl <;> first | rfl | exact absurd e (by decide +kernel)
theorem repB_wp (xs : List D) (hl : xs.length ≤ sizeLine) (b : Bool) : wp (mulA (.lst xs) (.int (if b = true then 1 else 0))) S Q E = Q (.lst (if b = true then xs else [])) S := by
  refine wp_eq ?_
  cases b with
  | true =>
    show (if -(2 ^ 63) ≤ (1 : Int) ∧ (1 : Int) < 2 ^ 63 ∧ xs.length * (1 : Int).toNat ≤ sizeLine then Fd.R.ok (D.lst (List.replicate (1 : Int).toNat xs).flatten) S else .stk) = _
    rw [if_pos ⟨by decide, by decide, by simpa using hl⟩]
    simp
  | false =>
    show (if -(2 ^ 63) ≤ (0 : Int) ∧ (0 : Int) < 2 ^ 63 ∧ xs.length * (0 : Int).toNat ≤ sizeLine then Fd.R.ok (D.lst (List.replicate (0 : Int).toNat xs).flatten) S else .stk) = _
    rw [if_pos ⟨by decide, by decide, by simp⟩]
    simp
theorem addL_wp (xs ys : List D) (h : xs.length + ys.length ≤ sizeLine) : wp (addA (.lst xs) (.lst ys)) S Q E = Q (.lst (xs ++ ys)) S := by
  refine wp_eq ?_
  show (if xs.length + ys.length ≤ sizeLine then Fd.R.ok (D.lst (xs ++ ys)) S else .stk) = _
  rw [if_pos h]
theorem mulB_wp (i : Int) (b : Bool) : wp (mulA (.int i) (.int (if b = true then 1 else 0))) S Q E = Q (.int (if b = true then i else 0)) S := by
  rw [wp_mulI (.inr (by cases b <;> decide))]
  cases b
  · show Q (.int (i * 0)) S = _
    rw [Int.mul_zero]; rfl
  · show Q (.int (i * 1)) S = _
    rw [Int.mul_one]; rfl
theorem lst1_wp {fa : En → M D} : wp (lstV (consA fa nilA) σ) S Q E = wp (fa σ) S (fun a S1 => Q (.lst [a]) S1) E := by
  simp only [lstV, consA, nilA, wp_bind, wp_pure, wp_ite, List.length_cons, List.length_nil, show (0 + 1 ≤ sizeLine) = True from eq_true (by decide), if_true]
theorem lst0_wp : wp (lstV nilA σ) S Q E = Q (.lst []) S := by
  simp only [lstV, nilA, wp_bind, wp_pure, wp_ite, List.length_nil, show (0 ≤ sizeLine) = True from eq_true (Nat.zero_le _), if_true]
/-! ### dicts -/
def pairR (p : Str × Int) : D := .tup [.str p.1, .int p.2]
theorem itemsE_wp {fe : En → M D} {bs : List (Str × Int)} (h : fe σ S = .ok (.dct false (bs.map kvOf)) S) : wp (itemsE fe σ) S Q E = Q (.lst (bs.map pairR)) S := by
  unfold itemsE
  rw [wp_bind, wp_eq h]
  refine wp_eq ?_
  show Fd.R.ok (D.lst (itemsD (bs.map kvOf))) S = _
  unfold itemsD
  rw [List.map_map]
  rfl
theorem mapM_pairs : ∀ bs : List (Str × Int), (bs.map pairR).mapM pairD = some (bs.map kvOf)
  | [] => rfl
  | p :: bs => by
    rw [List.map_cons, List.mapM_cons, mapM_pairs bs]
    rfl
theorem val_app_none {acc : List (DK × D)} {k : DK} {v : D} (hn : k ∉ acc.map (·.1)) : val acc k = none := by
  unfold val
  rw [Option.map_eq_none_iff, List.find?_eq_none]
  intro q hq z
  have z : q.1 = k := of_decide_eq_true z
  exact hn (by rw [← z]; exact List.mem_map.mpr ⟨q, hq, rfl⟩)
theorem merge_nodup : ∀ (more acc : List (DK × D)), ((acc ++ more).map (·.1)).Nodup → mergeD acc more = acc ++ more
  | [], acc, _ => by rw [List.append_nil]; rfl
  | (k, v) :: more, acc, h => by
    show mergeD (Fd.put acc k v) more = _
    have hk : k ∉ acc.map (·.1) := by
      rw [List.map_append, List.map_cons] at h
      have h2 := (List.nodup_append.mp h).2.2
      intro hm
      exact h2 _ hm _ List.mem_cons_self rfl
    rw [put_new (val_app_none (v := v) hk), merge_nodup more (acc ++ [(k, v)]) (by rw [List.append_assoc]; exact h), List.append_assoc]
    rfl
theorem kv_nodup {bs : List (Str × Int)} (h : (bs.map (·.1)).Nodup) : ((bs.map kvOf).map (·.1)).Nodup := by
  rw [List.map_map]
  have e : bs.map ((·.1) ∘ kvOf) = (bs.map (·.1)).map fun x => DK.k (.inr x) := by rw [List.map_map]; rfl
  rw [e]
  exact List.pairwise_map.mpr (h.imp fun h z => h (by cases z; rfl))
theorem dictV_wp {fr : En → M D} {Q' : D → Sto → Prop} {bs : List (Str × Int)} (hn : (bs.map (·.1)).Nodup) : (Q' (.lst (bs.map pairR)) S → wp (fun S => match dictL S (.lst (bs.map pairR)) with
    | some kvs => Fd.R.ok (D.dct false kvs) S
    | none => .stk) S Q E) ↔ (Q' (.lst (bs.map pairR)) S → Q (.dct false (bs.map kvOf)) S) := by
  refine imp_congr_right fun _ => ?_
  refine iff_of_eq (wp_eq ?_)
  show (match ((bs.map pairR).mapM pairD).map (mergeD []) with
    | some kvs => Fd.R.ok (D.dct false kvs) S
    | none => .stk) = _
  rw [mapM_pairs]
  show Fd.R.ok (D.dct false (mergeD [] (bs.map kvOf))) S = _
  rw [merge_nodup _ _ (by rw [List.nil_append]; exact kv_nodup hn), List.nil_append]
theorem dct_made {bs : List (Str × Int)} (hn : (bs.map (·.1)).Nodup) : dictL S (.lst (bs.map pairR)) = some (bs.map kvOf) := by
  show ((bs.map pairR).mapM pairD).map (mergeD []) = _
  rw [mapM_pairs]
  show some (mergeD [] (bs.map kvOf)) = _
  rw [merge_nodup _ _ (by rw [List.nil_append]; exact kv_nodup hn), List.nil_append]
theorem dictV1_wp {fe : En → M D} (k : wp (fe σ) S (fun d S1 => match dictL S1 d with
    | some kvs => Q (.dct false kvs) S1
    | none => False) E) : wp (dictV (consA fe nilA) σ) S Q E := by
  unfold dictV
  rw [wp_bind]
  simp only [consA, nilA, wp_bind, wp_pure]
  refine wp_mono k (fun d S1 h => ?_) fun _ _ z => z
  unfold wp
  simp only
  cases e : dictL S1 d with
  | none => rw [e] at h; exact h
  | some kvs => rw [e] at h; exact h
/-! ### comparing a thing with itself -/
theorem eqvAll_refl : ∀ {ps : List PyData}, (∀ p ∈ ps, PyData.eqv p p = true) → PyData.eqvAll ps ps = true
  | [], _ => by simp [PyData.eqvAll]
  | p :: ps, h => by
    have h1 := h p List.mem_cons_self
    have h2 := eqvAll_refl fun q hq => h q (List.mem_cons_of_mem _ hq)
    simp [PyData.eqvAll, h1, h2]
theorem eqvL_refl {ps : List PyData} (h : ∀ p ∈ ps, PyData.eqv p p = true) : PyData.eqv (.list ps) (.list ps) = true := by
  have h2 := eqvAll_refl h
  simp [PyData.eqv, h2]
theorem eqvT_refl {ps : List PyData} (h : ∀ p ∈ ps, PyData.eqv p p = true) : PyData.eqv (.tuple ps) (.tuple ps) = true := by
  have h2 := eqvAll_refl h
  simp [PyData.eqv, h2]
def cutP (p : Str × Str × Int) : PyData := .tuple [.str p.1, .str p.2.1, .int p.2.2]
theorem mapM_cuts (S : Sto) (n : Nat) : ∀ l : List (Str × Str × Int), (l.map cut3).mapM (toPy S (n + 2)) = some (l.map cutP)
  | [] => rfl
  | p :: l => by
    rw [List.map_cons, List.mapM_cons, mapM_cuts S n l]
    rfl
theorem neCuts_wp {l : Nat} {cs : List (Str × Str × Int)} (h : S.objs[l]? = some (.lst (cs.map cut3))) : wp (neA (.ref l) (.lst (cs.map cut3))) S Q E = Q (.bl false) S := by
  refine wp_eq ?_
  have h1 : py S (.ref l) = some (.list (cs.map cutP)) := by
    show (match S.objs[l]? with
      | some (.lst ds) => (ds.mapM (toPy S 11)).map PyData.list
      | _ => none) = _
    rw [h]
    show ((cs.map cut3).mapM (toPy S 11)).map PyData.list = _
    rw [mapM_cuts S 9]
    rfl
  have h2 : py S (.lst (cs.map cut3)) = some (.list (cs.map cutP)) := by
    show ((cs.map cut3).mapM (toPy S 11)).map PyData.list = _
    rw [mapM_cuts S 9]
    rfl
  have hd : dctD S (.ref l) = none := by unfold dctD; simp only [h]
  unfold neA alt2
  simp only [hd, Option.isSome_none, Bool.false_eq_true, if_false]
  unfold neD
  rw [h1, h2]
  simp only
  rw [eqvL_refl]
  · rfl
  · intro p hp
    obtain ⟨c, _, rfl⟩ := List.mem_map.mp hp
    refine eqvT_refl fun q hq => ?_
    rcases List.mem_cons.mp hq with rfl | hq
    · rw [eqv_str]; simp
    rcases List.mem_cons.mp hq with rfl | hq
    · rw [eqv_str]; simp
    rcases List.mem_cons.mp hq with rfl | hq
    · rw [eqv_int]; simp
    · cases hq
theorem eqK_self {bs : List (Str × Int)} (hn : (bs.map (·.1)).Nodup) : ∀ r : List (Str × Int), (∀ p ∈ r, p ∈ bs) → eqK S (bs.map kvOf) (r.map kvOf) = some true
  | [], _ => rfl
  | p :: r, h => by
    have h1 := eqK_self hn r fun q hq => h q (List.mem_cons_of_mem _ hq)
    have h2 := val_bs hn (h p List.mem_cons_self)
    rw [List.map_cons]
    show (match val (bs.map kvOf) (.k (.inr p.1)) with
      | none => some false
      | some w => (match py S (.int p.2), py S w, eqK S (bs.map kvOf) (r.map kvOf) with
        | some a, some b, some c => some (PyData.eqv a b && c)
        | _, _, _ => none)) = _
    rw [h2, h1]
    show some (PyData.eqv (.int p.2) (.int p.2) && true) = _
    rw [eqv_int]
    simp
theorem neDct_wp {l : Nat} {bs : List (Str × Int)} (hn : (bs.map (·.1)).Nodup) (h : S.objs[l]? = some (.dct false (bs.map kvOf))) : wp (neA (.ref l) (.dct false (bs.map kvOf))) S Q E = Q (.bl false) S := by
  refine wp_eq ?_
  unfold neA alt2
  simp only [dct_at h, Option.isSome_some, if_true]
  unfold neDO
  have e : eqDct S (.ref l) (.dct false (bs.map kvOf)) = some true := by
    unfold eqDct
    simp only [dct_at h]
    show (if _ then _ else _) = _
    rw [if_pos rfl, eqK_self hn bs fun _ h => h]
  rw [e]
  rfl
theorem neDctV_wp {bs : List (Str × Int)} (hn : (bs.map (·.1)).Nodup) : wp (neA (.dct false (bs.map kvOf)) (.dct false (bs.map kvOf))) S Q E = Q (.bl false) S := by
  refine wp_eq ?_
  show (match eqDct S (.dct false (bs.map kvOf)) (.dct false (bs.map kvOf)) with
    | some b => Fd.R.ok (D.bl (!b)) S
    | none => .stk) = _
  have e : eqDct S (.dct false (bs.map kvOf)) (.dct false (bs.map kvOf)) = some true := by
    show (if _ then _ else _) = _
    rw [if_pos rfl, eqK_self hn bs fun _ h => h]
  rw [e]
  rfl
theorem sumL_wp {xs : List Int} : wp (sumC [.lst (xs.map D.int)]) S Q E = Q (.int xs.sum) S := by
  refine wp_eq ?_
  show (if allInts (xs.map D.int) = true then Fd.R.ok (D.int ((xs.map D.int).map dI).sum) S else .stk) = _
  rw [if_pos]
  · rw [List.map_map]
    show Fd.R.ok (D.int (xs.map fun i => i).sum) S = _
    rw [List.map_id'] 
  · unfold allInts
    rw [List.all_eq_true]
    intro d hd
    obtain ⟨i, _, rfl⟩ := List.mem_map.mp hd
    rfl
theorem lockQ_dct {α : Type} {i : Nat} {f : En → M α} {kvs : List (DK × D)} (h : σ[i]? = some (some (.dct false kvs))) : lockQ (locV i) f σ S = f σ S := by
  unfold lockQ locV
  rw [h]
  rfl
theorem lockL_wp {α : Type} {i : Nat} {f : En → M α} {ds : List D} {Q : α → Sto → Prop} (h : σ[i]? = some (some (.lst ds))) : wp (lockQ (locV i) f σ) S Q E = wp (f σ) S Q E := by
  unfold wp
  rw [lockQ_lst h]
theorem lockD_wp {α : Type} {i : Nat} {f : En → M α} {kvs : List (DK × D)} {Q : α → Sto → Prop} (h : σ[i]? = some (some (.dct false kvs))) : wp (lockQ (locV i) f σ) S Q E = wp (f σ) S Q E := by
  unfold wp
  rw [lockQ_dct h]
theorem lockT_wp {α : Type} {i : Nat} {f : En → M α} {ds : List D} {Q : α → Sto → Prop} (h : σ[i]? = some (some (.tup ds))) : wp (lockQ (locV i) f σ) S Q E = wp (f σ) S Q E := by
  unfold wp lockQ locV
  rw [h]
  rfl
theorem itemsD_wp {kvs : List (DK × D)} {Q : List D → Sto → Prop} : wp (itemsOf (.dct false kvs)) S Q E = Q (kvs.map fun p => dkD p.1) S := rfl
theorem itemsT_wp {ds : List D} {Q : List D → Sto → Prop} : wp (itemsOf (.tup ds)) S Q E = Q ds S := rfl
end
/-! ### counting -/
theorem nodup_le : ∀ (l m : List Str), l.Nodup → (∀ x ∈ l, x ∈ m) → l.length ≤ m.length
  | [], m, _, _ => Nat.zero_le _
  | x :: l, m, hn, hs => by
    rw [List.nodup_cons] at hn
    have h1 := nodup_le l (m.erase x) hn.2 fun y hy => (List.mem_erase_of_ne (fun e => hn.1 (by rw [← e]; exact hy))).mpr (hs y (List.mem_cons_of_mem _ hy))
    have hx := hs x List.mem_cons_self
    rw [List.length_erase_of_mem hx] at h1
    have := List.length_pos_of_mem hx
    rw [List.length_cons]
    omega
theorem sum_le (B : Int) : ∀ l : List Int, (∀ x ∈ l, x ≤ B) → l.sum ≤ B * l.length
  | [], _ => by simp
  | x :: l, h => by
    have h1 := h x List.mem_cons_self
    have h2 := sum_le B l fun y hy => h y (List.mem_cons_of_mem _ hy)
    rw [List.sum_cons, List.length_cons, Int.natCast_succ, Int.mul_add]
    omega
theorem sumsOk_of {l : List Int} (h : ∀ x ∈ l, 0 ≤ x ∧ x ≤ 100) (hl : l.length ≤ 1000) : sumsOk l = true := by
  unfold sumsOk
  rw [List.all_eq_true]
  intro j hj
  have hj := List.mem_range.mp hj
  have h1 : ∀ x ∈ l.take (j + 1), 0 ≤ x ∧ x ≤ 100 := fun x hx => h x (List.mem_of_mem_take hx)
  have h2 := sum_nonneg _ fun x hx => (h1 x hx).1
  have h3 := sum_le 100 _ fun x hx => (h1 x hx).2
  have h4 : (l.take (j + 1)).length ≤ 1000 := by rw [List.length_take]; omega
  have h5 : l.getD j 0 ∈ l := by
    rw [List.getD_eq_getElem?_getD, List.getElem?_eq_getElem hj]
    exact List.getElem_mem hj
  have h6 := h _ h5
  unfold inLong
  simp only [Bool.and_eq_true, decide_eq_true_eq]
  refine ⟨⟨?_, ?_⟩, ?_, ?_⟩ <;> omega
theorem cutB_sum : ∀ {bs : List (Str × Int)} {p : Str × Int} (left : Int), (bs.map (·.1)).Nodup → p ∈ bs → ((cutB bs p.1 left).map (·.2)).sum = (bs.map (·.2)).sum - p.2 + if 9 < left then left else 0
  | q :: bs, p, left, hn, hm => by
    rw [List.map_cons, List.nodup_cons] at hn
    have other : ∀ (bs : List (Str × Int)), p.1 ∉ bs.map (·.1) → cutB bs p.1 left = bs := by
      intro bs h
      unfold cutB
      rw [List.filter_eq_self.mpr fun q hq => by
        have : ¬ q.1 = p.1 := fun e => h (by rw [← e]; exact List.mem_map.mpr ⟨q, hq, rfl⟩)
        simp [this]]
      refine (List.map_congr_left fun q hq => ?_).trans (List.map_id _)
      have : ¬ q.1 = p.1 := fun e => h (by rw [← e]; exact List.mem_map.mpr ⟨q, hq, rfl⟩)
      rw [if_neg this]
      rfl
    rcases List.mem_cons.mp hm with e | hm'
    · subst e
      have o := other bs hn.1
      unfold cutB at o ⊢
      rw [List.filter_cons]
      by_cases h : 9 < left
      · simp only [h, decide_true, Bool.or_true, if_true, List.map_cons, List.sum_cons]
        simp only [h, decide_true, Bool.or_true] at o
        rw [o]
        omega
      · simp only [h, decide_false, Bool.or_false, decide_true, Bool.not_true, Bool.false_eq_true, if_false, List.map_cons, List.sum_cons]
        simp only [h, decide_false, Bool.or_false] at o
        rw [o]
        omega
    · have hne : ¬ q.1 = p.1 := fun e => hn.1 (by rw [e]; exact List.mem_map.mpr ⟨p, hm', rfl⟩)
      have ih := cutB_sum left hn.2 hm'
      unfold cutB at ih ⊢
      rw [List.filter_cons]
      simp only [hne, decide_false, Bool.not_false, Bool.true_or, if_true, if_false, List.map_cons, List.sum_cons]
      rw [ih]
      omega
theorem cutB_mem {bs : List (Str × Int)} {nm : Str} {left : Int} {q : Str × Int} (h : q ∈ cutB bs nm left) : q.1 ∈ bs.map (·.1) ∧ (q ∈ bs ∨ (q.2 = left ∧ 9 < left)) := by
  unfold cutB at h
  obtain ⟨p, hp, rfl⟩ := List.mem_map.mp h
  obtain ⟨hp, hc⟩ := List.mem_filter.mp hp
  refine ⟨List.mem_map.mpr ⟨p, hp, rfl⟩, ?_⟩
  by_cases e : p.1 = nm
  · simp [e] at hc
    simp [e, hc]
  · left
    simp only [e, if_false]
    exact hp
theorem cutB_nodup {bs : List (Str × Int)} (nm : Str) (left : Int) (h : (bs.map (·.1)).Nodup) : ((cutB bs nm left).map (·.1)).Nodup := by
  unfold cutB
  rw [List.map_map]
  exact List.Nodup.sublist (List.Sublist.map _ (List.filter_sublist)) h
end K04

set_option Elab.async false
set_option linter.all false
set_option maxRecDepth 100000
set_option maxHeartbeats 1000000
namespace K04
open PySem PySem.Spec PyProof.Rows L2 LamX Fd
/-! ### one step at the cupboard -/
def asg0 : En → M Fl := (asgS (tupV (consA (bin2 addA (cst (.str "b")) (callE (consA (callE (consA (getV 1) (consA (cst (.int 8)) nilA)) (arg 2 D_lawRoll)) nilA) strC)) (consA (callE (consA (getV 1) (consA (cst (.int 90)) nilA)) (arg 2 D_lawRoll)) nilA))) (tupG 2 (consG (nameG 8) (consG (nameG 9) nilG))))
def add0 : En → M Fl := (seqS (setS 10 (andV (bin2 notinO (getV 8) (getV 3)) (bin2 gtI (getV 9) (cst (.int 9))))) (seqS (ifS (tst1 (bin2 eqA (bin2 eqA (toldE okc "BoltError" (methE 1 "add" (getV 2) (consA (getV 8) (consA (getV 9) nilA)) (arg 3 D_CupboardAdd))) (cst (.str "BoltError"))) (getV 10))) (retS (cst (.bl false))) skip) (asgS (tupV (consA (dictV (consA (bin2 addA (itemsE (getV 3)) (bin2 mulA (lstV (consA (tupV (consA (getV 8) (consA (getV 9) nilA))) nilA)) (callE (consA (getV 10) nilA) intC))) nilA)) (consA (bin2 addA (getV 6) (bin2 mulA (getV 9) (callE (consA (getV 10) nilA) intC))) nilA))) (tupG 2 (consG (nameG 3) (consG (nameG 6) nilG))))))
def cut0 : En → M Fl := (seqS (setS 11 (callE (consA (lockQ (locV 3) (genE (itSeq (getV 3)) [30] (nameG 30) (tst1 (bin2 geI (bin2 itemO (getV 3) (getV 30)) (getV 9))) (tupV (consA (bin2 itemO (getV 3) (getV 30)) (consA (getV 30) nilA))) chkAll finLst)) nilA) (sortedA false))) (seqS (setS 10 (andV (bin2 gtI (getV 9) (cst (.int 0))) (bin2 neA (getV 11) (lstV nilA)))) (seqS (setS 12 (bin2 addA (cst (.str "g")) (callE (consA (bin2 modI (getV 7) (cst (.int 3))) nilA) strC))) (seqS (ifS (tst1 (bin2 neA (toldE okc "BoltError" (methE 1 "cut" (getV 2) (consA (getV 12) (consA (getV 9) nilA)) (arg 3 D_CupboardCut))) (ifV (tst1 (getV 10)) (bin2 itemO (bin2 itemO (getV 11) (cst (.int 0))) (cst (.int 1))) (cst (.str "BoltError"))))) (retS (cst (.bl false))) skip) (ifS (tst1 (getV 10)) (seqS (setS 13 (bin2 subI (bin2 itemO (bin2 itemO (getV 11) (cst (.int 0))) (cst (.int 0))) (getV 9))) (seqS (parS 4 5 (consA (bin2 addA (getV 4) (lstV (consA (tupV (consA (bin2 itemO (bin2 itemO (getV 11) (cst (.int 0))) (cst (.int 1))) (consA (getV 12) (consA (getV 9) nilA)))) nilA))) (consA (bin2 addA (getV 5) (bin2 mulA (getV 13) (callE (consA (bin2 ltA (getV 13) (cst (.int 10))) nilA) intC))) nilA))) (setS 3 (dictV (consA (lockQ (locV 3) (genE (itSeq (getV 3)) [30] (nameG 30) (orT (tst1 (bin2 neA (getV 30) (bin2 itemO (bin2 itemO (getV 11) (cst (.int 0))) (cst (.int 1))))) (tst1 (bin2 gtI (getV 13) (cst (.int 9))))) (tupV (consA (getV 30) (consA (ifV (tst1 (bin2 eqA (getV 30) (bin2 itemO (bin2 itemO (getV 11) (cst (.int 0))) (cst (.int 1))))) (getV 13) (bin2 itemO (getV 3) (getV 30))) nilA))) chkAll finLst)) nilA))))) skip)))))
def chk0 : En → M Fl := (ifS (orT (tst1 (bin2 neA (fldE 1 "bolts" (getV 2)) (getV 3))) (orT (tst1 (bin2 neA (fldE 1 "cuts" (getV 2)) (getV 4))) (orT (tst1 (bin2 neA (fldE 1 "rags" (getV 2)) (getV 5))) (orT (tst1 (bin2 neA (getV 6) (bin2 addA (bin2 addA (methE 1 "whole" (getV 2) nilA (arg 1 D_CupboardWhole)) (getV 5)) (callE (consA (lockQ (locV 4) (genE (itSeq (getV 4)) [31] (nameG 31) yesT (bin2 itemO (getV 31) (cst (.int 2))) chkAll finLst)) nilA) sumC)))) (tst1 (bin2 neA (methE 1 "cut_for" (getV 2) (consA (cst (.str "g1")) nilA) (arg 2 D_CupboardCutFor)) (callE (consA (lockQ (locV 4) (genE (itSeq (getV 4)) [31] (nameG 31) (tst1 (bin2 eqA (bin2 itemO (getV 31) (cst (.int 1))) (cst (.str "g1")))) (bin2 itemO (getV 31) (cst (.int 2))) chkAll finLst)) nilA) sumC))))))) (retS (cst (.bl false))) skip)
theorem b0_eq : L_law_b0 = seqS asg0 (seqS (ifS (tst1 (bin2 eqA (callE (consA (getV 1) (consA (cst (.int 3)) nilA)) (arg 2 D_lawRoll)) (cst (.int 0)))) add0 cut0) chk0) := rfl
structure Wd (S : Sto) (ld lc lb lu : Nat) (bs : List (Str × Int)) (cs : List (Str × Str × Int)) (r : Int) : Prop where
  dice : diceAt S ld
  cup : Cup S lc lb lu (bs.map kvOf) (cs.map cut3) r
  nd : ld ≠ lc ∧ ld ≠ lb ∧ ld ≠ lu
def names8 : List Str := (List.range 8).map fun (i : Nat) => nmOf "b" (i : Int)
structure Bk (bs : List (Str × Int)) (cs : List (Str × Str × Int)) (r came : Int) : Prop where
  nod : (bs.map (·.1)).Nodup
  nm : ∀ p ∈ bs, p.1 ∈ names8
  v : ∀ p ∈ bs, 0 ≤ p.2 ∧ p.2 ≤ 100
  c : ∀ p ∈ cs, 0 ≤ p.2.2 ∧ p.2.2 ≤ 100
  came : came = (bs.map (·.2)).sum + r + (cs.map (·.2.2)).sum
structure Sg (σ : En) (ld lc : Nat) (bs : List (Str × Int)) (cs : List (Str × Str × Int)) (r came : Int) : Prop where
  n : σ.length = 32
  s1 : σ[1]? = some (some (.ref ld))
  s2 : σ[2]? = some (some (.ref lc))
  s3 : σ[3]? = some (some (.dct false (bs.map kvOf)))
  s4 : σ[4]? = some (some (.lst (cs.map cut3)))
  s5 : σ[5]? = some (some (.int r))
  s6 : σ[6]? = some (some (.int came))
section
variable {S : Sto} {E : Nat → Sto → Prop} {σ : En} {ld lc lb lu : Nat} {bs : List (Str × Int)} {cs : List (Str × Str × Int)} {r came : Int}
theorem Sg.set (g : Sg σ ld lc bs cs r came) {i : Nat} (h : 6 < i) (v : Option D) : Sg (σ.set i v) ld lc bs cs r came := by
  refine ⟨by rw [List.length_set]; exact g.n, ?_, ?_, ?_, ?_, ?_, ?_⟩
  · rw [List.getElem?_set_ne (by omega)]; exact g.s1
  · rw [List.getElem?_set_ne (by omega)]; exact g.s2
  · rw [List.getElem?_set_ne (by omega)]; exact g.s3
  · rw [List.getElem?_set_ne (by omega)]; exact g.s4
  · rw [List.getElem?_set_ne (by omega)]; exact g.s5
  · rw [List.getElem?_set_ne (by omega)]; exact g.s6
theorem Bk.len (b : Bk bs cs r came) : bs.length ≤ 8 := by
  have h := nodup_le _ names8 b.nod fun x hx => by
    obtain ⟨p, hp, rfl⟩ := List.mem_map.mp hx
    exact b.nm p hp
  rw [List.length_map] at h
  exact h
theorem Wd.roll (w : Wd S ld lc lb lu bs cs r) (a b c : Int) : Wd (S.put ld (.lst [.int a, .int b, .int c])) ld lc lb lu bs cs r :=
  ⟨w.dice.put a b c, ⟨by rw [put_ne w.nd.1]; exact w.cup.c, by rw [put_ne w.nd.2.1]; exact w.cup.b, by rw [put_ne w.nd.2.2]; exact w.cup.u, w.cup.ul⟩, w.nd⟩
theorem Wd.of_fr (w : Wd S ld lc lb lu bs cs r) {S' : Sto} {bs' : List (Str × Int)} {cs' : List (Str × Str × Int)} {r' : Int} (f : Fr S S' lc lb lu) (h : Cup S' lc lb lu (bs'.map kvOf) (cs'.map cut3) r') : Wd S' ld lc lb lu bs' cs' r' := by
  refine ⟨?_, h, w.nd⟩
  obtain ⟨h1, a, b, c, h2⟩ := w.dice
  exact ⟨by unfold Sto.locked at h1 ⊢; rw [f.k]; exact h1, a, b, c, by rw [f.o ld w.nd.1 w.nd.2.1 w.nd.2.2]; exact h2⟩
/-! ### comprehensions over data -/
theorem genL_map {α : Type} {bod : D → M (Option D)} {fin : List D → M D} {Q : D → Sto → Prop} (enc : α → D) (f : α → Option D) : ∀ (xs : List α) (ys : List D), (∀ x ∈ xs, bod (enc x) S = .ok (f x) S) → ys.length + xs.length ≤ sizeLine → wp (fin (ys ++ xs.filterMap f)) S Q E → wp (genL bod chkAll fin ys (xs.map enc)) S Q E
  | [], ys, _, _, h => by
    rw [List.filterMap_nil, List.append_nil] at h
    exact h
  | d :: ds, ys, hb, hl, h => by
    rw [List.map_cons]
    unfold genL
    rw [wp_bind]
    have e := hb d List.mem_cons_self
    refine wp_nox (wp_of e ?_)
    rw [List.length_cons] at hl
    cases ef : f d with
    | none =>
      rw [List.filterMap_cons, ef] at h
      exact genL_map enc f ds ys (fun x hx => hb x (List.mem_cons_of_mem _ hx)) (by omega) h
    | some y =>
      rw [List.filterMap_cons, ef] at h
      have hc : chkAll ys y = some none := if_pos (by omega)
      simp only [hc]
      refine genL_map enc f ds (ys ++ [y]) (fun x hx => hb x (List.mem_cons_of_mem _ hx)) (by rw [List.length_append, List.length_singleton]; omega) ?_
      rw [List.append_assoc]
      exact h
theorem genE_wp {α : Type} {fit : En → M (List D)} {vs : List Nat} {g : D → En → M En} {t : En → M Bool} {fe : En → M D} {fin : List D → M D} {Q : D → Sto → Prop} (enc : α → D) (xs : List α) (f : α → Option D) (hit : fit σ S = .ok (xs.map enc) S) (hb : ∀ x ∈ xs, bodG vs g t fe σ (enc x) S = .ok (f x) S) (hl : xs.length ≤ sizeLine)
    (k : wp (fin (xs.filterMap f)) S Q E) : wp (genE fit vs g t fe chkAll fin σ) S Q E := by
  unfold genE
  rw [wp_bind, wp_eq hit]
  exact genL_map enc f xs [] hb (by simpa using hl) k
theorem genE_ok {α : Type} {fit : En → M (List D)} {vs : List Nat} {g : D → En → M En} {t : En → M Bool} {fe : En → M D} (enc : α → D) (xs : List α) (f : α → Option D) (hit : fit σ S = .ok (xs.map enc) S) (hb : ∀ x ∈ xs, bodG vs g t fe σ (enc x) S = .ok (f x) S) (hl : xs.length ≤ sizeLine) : genE fit vs g t fe chkAll finLst σ S = .ok (.lst (xs.filterMap f)) S :=
  run_of fun Q E hq => genE_wp enc xs f hit hb hl hq
theorem filterMap_some {α β : Type} (f : α → β) (xs : List α) : xs.filterMap (fun x => some (f x)) = xs.map f := by
  induction xs with
  | nil => rfl
  | cons x xs ih => rw [List.filterMap_cons, ih]; rfl
theorem filterMap_if {α β : Type} (c : α → Bool) (f : α → β) (xs : List α) : xs.filterMap (fun x => if c x = true then some (f x) else none) = (xs.filter c).map f := by
  induction xs with
  | nil => rfl
  | cons x xs ih =>
    rw [List.filterMap_cons, List.filter_cons]
    by_cases h : c x = true
    · simp only [h, if_true, ih, List.map_cons]
    · simp only [h, if_false, ih]
      rfl
/-! ### the last look of a step -/
theorem ix2_wp {Q : D → Sto → Prop} (a b c : D) : wp (itemO (.tup [a, b, c]) (.int 2)) S Q E = Q c S := wp_eq rfl
theorem ix1c_wp {Q : D → Sto → Prop} (a b c : D) : wp (itemO (.tup [a, b, c]) (.int 1)) S Q E = Q b S := wp_eq rfl
theorem kv_vals (bs : List (Str × Int)) : (bs.map kvOf).map (·.2) = (bs.map (·.2)).map D.int := by rw [List.map_map, List.map_map]; rfl
theorem ints_all (xs : List Int) : allInts (xs.map D.int) = true := by
  unfold allInts
  rw [List.all_eq_true]
  intro d hd
  obtain ⟨i, _, rfl⟩ := List.mem_map.mp hd
  rfl
theorem ints_dI (xs : List Int) : (xs.map D.int).map dI = xs := by
  rw [List.map_map]
  exact (List.map_congr_left fun _ _ => rfl).trans (List.map_id _)
theorem cutFor_f (cs : List (Str × Str × Int)) (w : Str) : (cs.map cut3).filterMap (cutFn w) = (cs.filter fun c => decide (c.2.1 = w)).map (·.2.2) := by
  rw [List.filterMap_map]
  induction cs with
  | nil => rfl
  | cons c cs ih =>
    rw [List.filterMap_cons, List.filter_cons, ih]
    simp only [Function.comp, cut3, cutFn]
    by_cases h : c.2.1 = w
    · simp [h]
    · simp [h]
theorem chk_wp {Q : Fl → Sto → Prop} (g : Sg σ ld lc bs cs r came) (w : Wd S ld lc lb lu bs cs r) (b : Bk bs cs r came) (hc : cs.length ≤ 100) (k : Q (.nx σ) S) : wp (chk0 σ) S Q E := by
  have hw : D_CupboardWhole [.ref lc] S = .ok (.int (bs.map (·.2)).sum) S := run_of fun Q E hq => by
    refine whole_wp w.cup (by rw [kv_vals]; exact ints_all _) ?_ ?_
    · rw [kv_vals, ints_dI]
      refine sumsOk_of (fun x hx => ?_) (by rw [List.length_map]; have := b.len; omega)
      obtain ⟨p, hp, rfl⟩ := List.mem_map.mp hx
      exact b.v p hp
    · rw [kv_vals, ints_dI]
      exact hq
  have hf : D_CupboardCutFor [.ref lc, .str "g1"] S = .ok (.int ((cs.filter fun c => decide (c.2.1 = ("g1" : Str))).map (·.2.2)).sum) S := run_of fun Q E hq => by
    refine cutFor_wp w.cup (fun p hp => (b.c p hp).1) ?_ ?_
    · rw [cutFor_f]
      have h2 := sum_le 100 ((cs.filter fun c => decide (c.2.1 = ("g1" : Str))).map (·.2.2)) fun x hx => by
        obtain ⟨p, hp, rfl⟩ := List.mem_map.mp hx
        exact (b.c p (List.mem_filter.mp hp).1).2
      have h3 : ((cs.filter fun c => decide (c.2.1 = ("g1" : Str))).map (·.2.2)).length ≤ 100 := by
        rw [List.length_map]
        exact Nat.le_trans (List.length_filter_le _ _) hc
      omega
    · rw [cutFor_f]
      exact hq
  have hz : cs.length ≤ sizeLine := Nat.le_trans hc (by decide)
  have n31 : 31 < σ.length := by rw [g.n]; decide
  have hit : itSeq (getV 4) σ S = .ok (cs.map cut3) S := run_of fun Q E hq => by
    simp only [itSeq, getV, wp_bind, wp_pure, g.s4]
    exact hq
  have g1 : genE (itSeq (getV 4)) [31] (nameG 31) yesT (bin2 itemO (getV 31) (cst (.int 2))) chkAll finLst σ S = .ok (.lst ((cs.map (·.2.2)).map D.int)) S := by
    rw [genE_ok cut3 cs (fun c => some (D.int c.2.2)) hit (fun c _ => run_of fun Q E hq => ?_) hz, filterMap_some, List.map_map]
    · rfl
    · simp only [bodG, nameG, yesT, wipeE, bin2, getV, cst, wp_bind, wp_pure, wp_ite, if_true, List.set_set, List.getElem?_set_self n31, cut3, ix2_wp]
      exact hq
  have g2 : genE (itSeq (getV 4)) [31] (nameG 31) (tst1 (bin2 eqA (bin2 itemO (getV 31) (cst (.int 1))) (cst (.str "g1")))) (bin2 itemO (getV 31) (cst (.int 2))) chkAll finLst σ S = .ok (.lst (((cs.filter fun c => decide (c.2.1 = ("g1" : Str))).map (·.2.2)).map D.int)) S := by
    rw [genE_ok cut3 cs (fun c => if decide (c.2.1 = ("g1" : Str)) = true then some (D.int c.2.2) else none) hit (fun c _ => run_of fun Q E hq => ?_) hz, filterMap_if, List.map_map]
    · rfl
    · simp only [bodG, nameG, tst1, wipeE, bin2, getV, cst, wp_bind, wp_pure, wp_ite, List.set_set, List.getElem?_set_self n31, cut3, ix2_wp, ix1c_wp, eqS_wp, wp_asB]
      by_cases h : decide (c.2.1 = ("g1" : Str)) = true
      · rw [if_pos h] at hq ⊢
        exact hq
      · rw [if_neg h] at hq ⊢
        exact hq
  have hcame : decide (came = (bs.map (·.2)).sum + r + (cs.map (·.2.2)).sum) = true := decide_eq_true b.came
  unfold chk0
  simp only [ifS, orT, tst1, bin2, fldE, methE, callE, consA, nilA, arg, getV, cst, skip, wp_bind, wp_pure, wp_ite, g.s2, g.s3, g.s4, g.s5, g.s6, fldB_wp w.cup, neDct_wp b.nod w.cup.b, wp_asB, Bool.false_eq_true, if_false, fldU_wp w.cup, neCuts_wp w.cup.u, fldR_wp w.cup, wp_neI, decide_true, Bool.not_true, chkM_wp (m := "whole") w.cup rfl, chkM_wp (m := "cut_for") w.cup rfl, List.length_cons, List.length_nil, if_true, wp_eq hw, wp_eq hf, show ((0 : Nat) + 1 = 1) = True from eq_true rfl, show ((0 : Nat) + 1 + 1 = 2) = True from eq_true rfl, wp_addI, lockL_wp g.s4, wp_eq g1, wp_eq g2, sumL_wp, hcame]
  exact k
/-! ### a bolt more -/
def addB (bs : List (Str × Int)) (nm : Str) (len : Int) (G : Bool) : List (Str × Int) := bs ++ if G = true then [(nm, len)] else []
theorem mem_val {nm : Str} : (val (bs.map kvOf) (.k (.inr nm))).isSome = true ↔ nm ∈ bs.map (·.1) := by
  constructor
  · intro h
    by_cases hm : nm ∈ bs.map (·.1)
    · exact hm
    · rw [val_bs_none hm] at h; cases h
  · intro h
    cases e : val (bs.map kvOf) (.k (.inr nm)) with
    | some v => rfl
    | none =>
      obtain ⟨p, hp, rfl⟩ := List.mem_map.mp h
      have z := val_none_any e
      rw [List.any_eq_false] at z
      exact absurd (decide_eq_true rfl) (z (kvOf p) (List.mem_map.mpr ⟨p, hp, rfl⟩))
theorem add0_wp {Q : Fl → Sto → Prop} {nm : Str} {len : Int} (g : Sg σ ld lc bs cs r came) (h8 : σ[8]? = some (some (.str nm))) (h9 : σ[9]? = some (some (.int len))) (hnm : nm ∈ names8) (hlen : 0 ≤ len ∧ len ≤ 100) (w : Wd S ld lc lb lu bs cs r) (b : Bk bs cs r came)
    (k : ∀ σ' S' bs' came', Sg σ' ld lc bs' cs r came' → Wd S' ld lc lb lu bs' cs r → Bk bs' cs r came' → Q (.nx σ') S') : wp (add0 σ) S Q E := by
  obtain ⟨G, eG⟩ : ∃ G, G = (!(val (bs.map kvOf) (.k (.inr nm))).isSome && decide (9 < len)) := ⟨_, rfl⟩
  have gG : ∀ {Q : D → Sto → Prop} {E : Nat → Sto → Prop}, wp (andV (bin2 notinO (getV 8) (getV 3)) (bin2 gtI (getV 9) (cst (.int 9))) σ) S Q E = Q (.bl G) S := by
    intro Q E
    simp only [andV, bin2, getV, cst, wp_bind, wp_pure, wp_ite, h8, h9, g.s3, inV_wp, wp_asB, wp_gtI]
    rw [eG]
    cases (val (bs.map kvOf) (.k (.inr nm))).isSome <;> rfl
  have n10 : 10 < σ.length := by rw [g.n]; decide
  unfold add0
  simp only [seqS, setS, wp_bind, gG, wp_pure]
  have g1 := g.set (i := 10) (by decide) (some (.bl G))
  have k8 : (σ.set 10 (some (D.bl G)))[8]? = some (some (.str nm)) := by rw [List.getElem?_set_ne (by decide)]; exact h8
  have k9 : (σ.set 10 (some (D.bl G)))[9]? = some (some (.int len)) := by rw [List.getElem?_set_ne (by decide)]; exact h9
  have k10 : (σ.set 10 (some (D.bl G)))[10]? = some (some (.bl G)) := List.getElem?_set_self n10
  generalize σ.set 10 (some (D.bl G)) = σ1 at g1 k8 k9 k10 ⊢
  have tl : ∀ (S' : Sto), Wd S' ld lc lb lu (addB bs nm len G) cs r → Bk (addB bs nm len G) cs r (came + if G = true then len else 0) → wp (asgS (tupV (consA (dictV (consA (bin2 addA (itemsE (getV 3)) (bin2 mulA (lstV (consA (tupV (consA (getV 8) (consA (getV 9) nilA))) nilA)) (callE (consA (getV 10) nilA) intC))) nilA)) (consA (bin2 addA (getV 6) (bin2 mulA (getV 9) (callE (consA (getV 10) nilA) intC))) nilA))) (tupG 2 (consG (nameG 3) (consG (nameG 6) nilG))) σ1) S' Q E := by
    intro S' w' b'
    have n3 : 3 < σ1.length := by rw [g1.n]; decide
    have n6 : 6 < σ1.length := by rw [g1.n]; decide
    have hd : wp (dictV (consA (bin2 addA (itemsE (getV 3)) (bin2 mulA (lstV (consA (tupV (consA (getV 8) (consA (getV 9) nilA))) nilA)) (callE (consA (getV 10) nilA) intC))) nilA) σ1) S' (fun d S1 => d = .dct false ((addB bs nm len G).map kvOf) ∧ S1 = S') (fun _ _ => False) := by
      refine dictV1_wp ?_
      have hi : getV 3 σ1 S' = .ok (.dct false (bs.map kvOf)) S' := by unfold getV; rw [g1.s3]; rfl
      simp only [bin2, wp_bind, itemsE_wp hi, lst1_wp, tup2_wp, getV, k8, k9, k10, wp_pure, callE, consA, nilA, wp_intB]
      rw [repB_wp [D.tup [D.str nm, D.int len]] (show 1 ≤ sizeLine by decide), addL_wp _ _ (by
        have h1 := b.len
        have : (if G = true then [D.tup [D.str nm, D.int len]] else []).length ≤ 1 := by cases G <;> simp
        have : 9 ≤ sizeLine := by decide
        rw [List.length_map]
        omega)]
      have e : bs.map pairR ++ (if G = true then [D.tup [D.str nm, D.int len]] else []) = (addB bs nm len G).map pairR := by
        unfold addB
        rw [List.map_append]
        cases G <;> rfl
      rw [e, dct_made b'.nod]
      exact ⟨rfl, rfl⟩
    obtain ⟨d, S1, e1, rfl, rfl⟩ := wp_out hd
    simp only [asgS, wp_bind, tup2_wp, wp_eq e1, bin2, getV, g1.s6, k9, k10, wp_pure, callE, consA, nilA, wp_intB, mulB_wp, wp_addI, tupG, tupD, consG, nilG, nameG, List.length_cons, List.length_nil, if_true, show ((0 : Nat) + 1 + 1 = 2) = True from eq_true rfl]
    refine k _ _ (addB bs nm len G) _ ⟨by rw [List.length_set, List.length_set]; exact g1.n, ?_, ?_, ?_, ?_, ?_, ?_⟩ w' b'
    · rw [List.getElem?_set_ne (by decide), List.getElem?_set_ne (by decide)]; exact g1.s1
    · rw [List.getElem?_set_ne (by decide), List.getElem?_set_ne (by decide)]; exact g1.s2
    · rw [List.getElem?_set_ne (by decide), List.getElem?_set_self n3]
    · rw [List.getElem?_set_ne (by decide), List.getElem?_set_ne (by decide)]; exact g1.s4
    · rw [List.getElem?_set_ne (by decide), List.getElem?_set_ne (by decide)]; exact g1.s5
    · rw [List.getElem?_set_self (by rw [List.length_set]; exact n6)]
  simp only [ifS, tst1, bin2, wp_bind, told_wp, methE, getV, g1.s2, wp_pure, chkM_wp (m := "add") w.cup rfl, consA, nilA, k8, k9, k10, arg, List.length_cons, List.length_nil, if_true, show ((0 : Nat) + 1 + 1 + 1 = 3) = True from eq_true rfl]
  have hl := b.len
  refine add_wp w.cup (by rw [List.length_map]; omega) (fun hx => ?_) fun hx => ?_
  · have e0 : G = false := by
      rw [eG]
      rcases hx with hx | hx
      · rw [hx]; rfl
      · rw [decide_eq_false (show ¬ (9 < len) by omega), Bool.and_false]
    subst e0
    simp only [show okc 0 = true from by decide, if_true, cst, wp_pure, eqS_wp, decide_true, eqB_wp, wp_asB, show ((true == false) = true) = False from eq_false (by decide), wp_ite, if_false, skip]
    refine tl S ?_ ?_
    · unfold addB
      simp only [Bool.false_eq_true, if_false, List.append_nil]
      exact w
    · unfold addB
      simp only [Bool.false_eq_true, if_false, List.append_nil, Int.add_zero]
      exact b
  · have e0 : G = true := by
      rw [eG]
      have h1 : (val (bs.map kvOf) (.k (.inr nm))).isSome = false := by
        cases e : (val (bs.map kvOf) (.k (.inr nm))).isSome with
        | false => rfl
        | true => exact absurd (.inl e) hx
      rw [h1, decide_eq_true (show 9 < len by have : ¬ len < 10 := fun z => hx (.inr z); omega)]
      rfl
    subst e0
    have hm : nm ∉ bs.map (·.1) := fun z => hx (.inl (mem_val.mpr z))
    simp only [cst, wp_pure, eqNS_wp, eqB_wp, wp_asB, show ((false == true) = true) = False from eq_false (by decide), wp_ite, if_false, skip]
    rw [put_new (val_bs_none hm)]
    have e1 : bs.map kvOf ++ [(DK.k (.inr nm), D.int len)] = (addB bs nm len true).map kvOf := by
      unfold addB
      rw [List.map_append]
      rfl
    rw [e1]
    refine tl _ (w.of_fr ((Fr.refl S lc lb lu).put (.inr (.inl rfl))) (w.cup.putB _)) ?_
    unfold addB
    simp only [if_true]
    refine ⟨?_, ?_, ?_, b.c, ?_⟩
    · rw [List.map_append, List.nodup_append]
      refine ⟨b.nod, by simp, fun x hx' y hy e => ?_⟩
      subst e
      rw [List.map_cons, List.map_nil, List.mem_singleton] at hy
      subst hy
      exact hm hx'
    · intro p hp
      rcases List.mem_append.mp hp with hp | hp
      · exact b.nm p hp
      · rw [List.mem_singleton] at hp; subst hp; exact hnm
    · intro p hp
      rcases List.mem_append.mp hp with hp | hp
      · exact b.v p hp
      · rw [List.mem_singleton] at hp; subst hp; exact hlen
    · rw [List.map_append, List.sum_append, b.came]
      show _ = _ + (len + 0) + _ + _
      omega
end
end K04

set_option Elab.async false
set_option linter.all false
set_option maxRecDepth 100000
set_option maxHeartbeats 1000000
namespace K04
open PySem PySem.Spec PyProof.Rows L2 LamX Fd
/-! ### a cut, by the law's own -/
section
variable {S : Sto} {E : Nat → Sto → Prop} {σ : En} {ld lc lb lu : Nat} {bs : List (Str × Int)} {cs : List (Str × Str × Int)} {r came : Int}
theorem sortR_rows (l : List (Str × Int)) : ∃ rs : List (Str × Int), sortR l = rs.map rowOf ∧ rs.length = l.length := by
  have key : ∀ L : List D, (∀ d ∈ L, ∃ p : Str × Int, d = rowOf p) → ∃ rs : List (Str × Int), L = rs.map rowOf := by
    intro L
    induction L with
    | nil => intro _; exact ⟨[], rfl⟩
    | cons d L ih =>
      intro h
      obtain ⟨p, e⟩ := h d List.mem_cons_self
      obtain ⟨rs, e2⟩ := ih fun x hx => h x (List.mem_cons_of_mem _ hx)
      exact ⟨p :: rs, by rw [e, e2]; rfl⟩
  obtain ⟨rs, e⟩ := key (sortR l) fun d hd => by
    obtain ⟨p, _, e⟩ := sortR_mem hd
    exact ⟨p, e⟩
  refine ⟨rs, e, ?_⟩
  have h := sortR_len l
  rw [e, List.length_map] at h
  exact h
theorem rowOf_inj {p q : Str × Int} (h : rowOf p = rowOf q) : p = q := by
  unfold rowOf at h
  injection h with h
  injection h with h1 h2
  injection h2 with h2 h3
  injection h1 with h1
  injection h2 with h2
  cases p; cases q
  simp only at h1 h2
  rw [h1, h2]
theorem neRows_wp {Q : D → Sto → Prop} (l : List (Str × Int)) : wp (neA (.lst (l.map rowOf)) (.lst [])) S Q E = Q (.bl (!l.isEmpty)) S := by
  refine wp_eq ?_
  have h1 : py S (.lst (l.map rowOf)) = some (.list (l.map rowP)) := by
    show ((l.map rowOf).mapM (toPy S 11)).map PyData.list = _
    rw [mapM_rows S 9]
    rfl
  have h2 : py S (.lst []) = some (.list []) := rfl
  show (match py S (.lst (l.map rowOf)), py S (.lst []) with
    | some a, some b => Fd.R.ok (D.bl (!PyData.eqv a b)) S
    | _, _ => .stk) = _
  rw [h1, h2]
  cases l with
  | nil => simp [PyData.eqv, PyData.eqvAll]
  | cons p l => simp [PyData.eqv, PyData.eqvAll]
theorem ixL0_wp {Q : D → Sto → Prop} (a : D) (r : List D) : wp (itemO (.lst (a :: r)) (.int 0)) S Q E = Q a S := by
  refine wp_eq ?_
  show (match atI (a :: r) 0 with
    | some d => Fd.R.ok d S
    | none => .stk) = _
  have : atI (a :: r) 0 = some a := by
    unfold atI ixN
    simp
  rw [this]
theorem rowsLaw {nl : Int} (g : Sg σ ld lc bs cs r came) (h9 : σ[9]? = some (some (.int nl))) (b : Bk bs cs r came) : genE (itSeq (getV 3)) [30] (nameG 30) (tst1 (bin2 geI (bin2 itemO (getV 3) (getV 30)) (getV 9))) (tupV (consA (bin2 itemO (getV 3) (getV 30)) (consA (getV 30) nilA))) chkAll finLst σ S = .ok (.lst ((bs.filter fun p => decide (nl ≤ p.2)).map rowOf)) S := by
  have n30 : 30 < σ.length := by rw [g.n]; decide
  have hit : itSeq (getV 3) σ S = .ok (bs.map fun p => D.str p.1) S := run_of fun Q E hq => by
    simp only [itSeq, getV, wp_bind, wp_pure, g.s3, itemsD_wp]
    rw [List.map_map]
    exact hq
  rw [genE_ok (fun p : Str × Int => D.str p.1) bs (fun p => if decide (nl ≤ p.2) = true then some (rowOf p) else none) hit (fun p hp => run_of fun Q E hq => ?_) (Nat.le_trans b.len (by decide)), filterMap_if]
  have hv := val_bs b.nod hp
  have e3 : ∀ v, (σ.set 30 v)[3]? = some (some (.dct false (bs.map kvOf))) := fun v => by rw [List.getElem?_set_ne (by decide)]; exact g.s3
  have e9 : ∀ v, (σ.set 30 v)[9]? = some (some (.int nl)) := fun v => by rw [List.getElem?_set_ne (by decide)]; exact h9
  simp only [bodG, nameG, tst1, wipeE, bin2, getV, cst, wp_bind, wp_pure, wp_ite, List.set_set, List.getElem?_set_self n30, e3, e9, itemV_wp hv, wp_geI, wp_asB, tup2_wp]
  by_cases h : decide (nl ≤ p.2) = true
  · rw [if_pos h] at hq ⊢
    exact hq
  · rw [if_neg h] at hq ⊢
    exact hq
theorem cut0_wp {Q : Fl → Sto → Prop} {nl st : Int} (g : Sg σ ld lc bs cs r came) (h7 : σ[7]? = some (some (.int st))) (h9 : σ[9]? = some (some (.int nl))) (hlen : nl ≤ 100) (hc : cs.length ≤ 99) (w : Wd S ld lc lb lu bs cs r) (b : Bk bs cs r came)
    (k : ∀ σ' S' bs' cs' r', Sg σ' ld lc bs' cs' r' came → Wd S' ld lc lb lu bs' cs' r' → Bk bs' cs' r' came → cs'.length ≤ cs.length + 1 → Q (.nx σ') S') : wp (cut0 σ) S Q E := by
  obtain ⟨R, eR⟩ : ∃ R, R = bs.filter fun p => decide (nl ≤ p.2) := ⟨_, rfl⟩
  obtain ⟨rs, ers, hrs⟩ := sortR_rows R
  have n11 : 11 < σ.length := by rw [g.n]; decide
  unfold cut0
  have hr := rowsLaw (S := S) g h9 b
  rw [← eR] at hr
  simp only [seqS, setS, wp_bind, callE, consA, nilA, lockD_wp g.s3, wp_eq hr, wp_pure, sorted_wp R, ers]
  have g1 := g.set (i := 11) (by decide) (some (D.lst (rs.map rowOf)))
  have k7 : (σ.set 11 (some (D.lst (rs.map rowOf))))[7]? = some (some (.int st)) := by rw [List.getElem?_set_ne (by decide)]; exact h7
  have k9 : (σ.set 11 (some (D.lst (rs.map rowOf))))[9]? = some (some (.int nl)) := by rw [List.getElem?_set_ne (by decide)]; exact h9
  have k11 : (σ.set 11 (some (D.lst (rs.map rowOf))))[11]? = some (some (.lst (rs.map rowOf))) := List.getElem?_set_self n11
  generalize σ.set 11 (some (D.lst (rs.map rowOf))) = σ1 at g1 k7 k9 k11 ⊢
  obtain ⟨G, eG⟩ : ∃ G, G = (decide (0 < nl) && !rs.isEmpty) := ⟨_, rfl⟩
  have gG : ∀ {Q : D → Sto → Prop} {E : Nat → Sto → Prop}, wp (andV (bin2 gtI (getV 9) (cst (.int 0))) (bin2 neA (getV 11) (lstV nilA)) σ1) S Q E = Q (.bl G) S := by
    intro Q E
    simp only [andV, bin2, getV, cst, wp_bind, wp_pure, wp_ite, k9, k11, wp_asB, wp_gtI, lst0_wp, neRows_wp]
    rw [eG]
    by_cases hz : 0 < nl
    · rw [if_pos (decide_eq_true hz), decide_eq_true hz, Bool.true_and]
    · rw [if_neg (by rw [decide_eq_false hz]; exact Bool.false_ne_true), decide_eq_false hz, Bool.false_and]
  rw [gG]
  have n10 : 10 < σ1.length := by rw [g1.n]; decide
  have g2 := g1.set (i := 10) (by decide) (some (D.bl G))
  have j7 : (σ1.set 10 (some (D.bl G)))[7]? = some (some (.int st)) := by rw [List.getElem?_set_ne (by decide)]; exact k7
  have j9 : (σ1.set 10 (some (D.bl G)))[9]? = some (some (.int nl)) := by rw [List.getElem?_set_ne (by decide)]; exact k9
  have j11 : (σ1.set 10 (some (D.bl G)))[11]? = some (some (.lst (rs.map rowOf))) := by rw [List.getElem?_set_ne (by decide)]; exact k11
  have j10 : (σ1.set 10 (some (D.bl G)))[10]? = some (some (.bl G)) := List.getElem?_set_self n10
  generalize σ1.set 10 (some (D.bl G)) = σ2 at g2 j7 j9 j10 j11 ⊢
  have hs0 : 0 ≤ st % 3 := Int.emod_nonneg _ (by decide)
  have hs1 : st % 3 < 3 := Int.emod_lt_of_pos _ (by decide)
  simp only [bin2, callE, consA, nilA, wp_bind, cst, wp_pure, getV, j7, wp_modI (i := st) (j := 3) (by decide), str_wp hs0 (Int.lt_trans hs1 (by decide)), addN_wp (c := "g") hs0 (Int.lt_trans hs1 (by decide)) (by decide)]
  obtain ⟨what, ew⟩ : ∃ what, what = nmOf "g" (st % 3) := ⟨_, rfl⟩
  rw [← ew]
  have n12 : 12 < σ2.length := by rw [g2.n]; decide
  have g3 := g2.set (i := 12) (by decide) (some (D.str what))
  have i9 : (σ2.set 12 (some (D.str what)))[9]? = some (some (.int nl)) := by rw [List.getElem?_set_ne (by decide)]; exact j9
  have i11 : (σ2.set 12 (some (D.str what)))[11]? = some (some (.lst (rs.map rowOf))) := by rw [List.getElem?_set_ne (by decide)]; exact j11
  have i10 : (σ2.set 12 (some (D.str what)))[10]? = some (some (.bl G)) := by rw [List.getElem?_set_ne (by decide)]; exact j10
  have i12 : (σ2.set 12 (some (D.str what)))[12]? = some (some (.str what)) := List.getElem?_set_self n12
  generalize σ2.set 12 (some (D.str what)) = σ3 at g3 i9 i10 i11 i12 ⊢
  simp only [ifS, tst1, bin2, wp_bind, told_wp, methE, getV, g3.s2, wp_pure, chkM_wp (m := "cut") w.cup rfl, consA, nilA, i9, i10, i12, arg, List.length_cons, List.length_nil, if_true, show ((0 : Nat) + 1 + 1 + 1 = 3) = True from eq_true rfl]
  have hz8 : bs.length < sizeLine := Nat.lt_of_le_of_lt b.len (by decide)
  have hzc : (cs.map cut3).length < sizeLine := by rw [List.length_map]; exact Nat.lt_of_le_of_lt hc (by decide)
  refine cut_wp w.cup b.nod hz8 hzc (fun hx => ?_) fun p S' hp hl h1 hd hcup hfr => ?_
  · have e0 : G = false := by
      rw [eG]
      rcases hx with hx | hx
      · rw [decide_eq_false (show ¬ (0 < nl) by omega)]; rfl
      · rw [← eR] at hx
        rw [hx] at hrs
        rw [List.eq_nil_of_length_eq_zero hrs]
        exact Bool.and_false _
    subst e0
    simp only [show okc 0 = true from by decide, if_true, ifV, tst1, cst, getV, wp_bind, wp_pure, wp_ite, i10, wp_asB, Bool.false_eq_true, if_false, neS_wp, decide_true, Bool.not_true, skip]
    exact k _ S bs cs r g3 w b (Nat.le_succ _)
  · rw [← eR] at hd
    rw [ers] at hd
    cases rs with
    | nil => cases hd
    | cons p0 rs =>
    have e0 : p0 = p := by
      have hd : some (rowOf p0) = some (rowOf p) := hd
      exact rowOf_inj (Option.some.inj hd)
    subst e0
    have e0 : G = true := by rw [eG, decide_eq_true (show 0 < nl by omega)]; rfl
    subst e0
    have ix : ∀ {Q : D → Sto → Prop} {E : Nat → Sto → Prop} {S : Sto}, wp (itemO (.lst (List.map rowOf (p0 :: rs))) (.int 0)) S Q E = Q (rowOf p0) S := fun {Q E S} => ixL0_wp _ _
    have ix0 : ∀ {Q : D → Sto → Prop} {E : Nat → Sto → Prop} {S : Sto}, wp (itemO (rowOf p0) (.int 0)) S Q E = Q (.int p0.2) S := fun {Q E S} => ix0_wp _ _
    have ix1 : ∀ {Q : D → Sto → Prop} {E : Nat → Sto → Prop} {S : Sto}, wp (itemO (rowOf p0) (.int 1)) S Q E = Q (.str p0.1) S := fun {Q E S} => ix1_wp _ _
    simp only [seqS, setS, ifS, ifV, tst1, cst, bin2, getV, wp_bind, wp_pure, wp_ite, i10, i11, wp_asB, if_true, ix, ix1, neS_wp, decide_true, Bool.not_true, Bool.false_eq_true, if_false, skip, ix0, i9, wp_subI]
    obtain ⟨left, el⟩ : ∃ left, left = p0.2 - nl := ⟨_, rfl⟩
    rw [← el] at hcup ⊢
    have n13 : 13 < σ3.length := by rw [g3.n]; decide
    have g4 := g3.set (i := 13) (by decide) (some (D.int left))
    have m9 : (σ3.set 13 (some (D.int left)))[9]? = some (some (.int nl)) := by rw [List.getElem?_set_ne (by decide)]; exact i9
    have m11 : (σ3.set 13 (some (D.int left)))[11]? = some (some (.lst ((p0 :: rs).map rowOf))) := by rw [List.getElem?_set_ne (by decide)]; exact i11
    have m12 : (σ3.set 13 (some (D.int left)))[12]? = some (some (.str what)) := by rw [List.getElem?_set_ne (by decide)]; exact i12
    have m13 : (σ3.set 13 (some (D.int left)))[13]? = some (some (.int left)) := List.getElem?_set_self n13
    generalize σ3.set 13 (some (D.int left)) = σ4 at g4 m9 m11 m12 m13 ⊢
    have hz2 : (cs.map cut3).length + [D.tup [D.str p0.1, D.str what, D.int nl]].length ≤ sizeLine := by
      rw [List.length_map]
      show cs.length + 1 ≤ _
      exact Nat.le_trans (Nat.succ_le_succ hc) (by decide)
    simp only [parS, consA, nilA, wp_bind, wp_pure, bin2, getV, cst, g4.s4, g4.s5, lst1_wp, tup3_wp, m9, m11, m12, m13, ix, ix1, addL_wp _ _ hz2, wp_ltI, callE, wp_intB, mulB_wp, wp_addI]
    obtain ⟨cs2, ec2⟩ : ∃ cs2, cs2 = cs ++ [(p0.1, what, nl)] := ⟨_, rfl⟩
    have hcs : cs.map cut3 ++ [D.tup [D.str p0.1, D.str what, D.int nl]] = cs2.map cut3 := by rw [ec2, List.map_append]; rfl
    have hcs' : cs.map cut3 ++ [cut3 (p0.1, what, nl)] = cs2.map cut3 := by rw [ec2, List.map_append]; rfl
    rw [hcs'] at hcup
    rw [hcs]
    have er : (r + if decide (left < 10) = true then left else 0) = r + if left < 10 then left else 0 := by
      by_cases h : left < 10
      · rw [if_pos h, if_pos (decide_eq_true h)]
      · rw [if_neg h, if_neg (by rw [decide_eq_false h]; exact Bool.false_ne_true)]
    rw [er]
    obtain ⟨r2, er2⟩ : ∃ r2, r2 = r + if left < 10 then left else 0 := ⟨_, rfl⟩
    rw [← er2] at hcup ⊢
    have n4 : 4 < σ4.length := by rw [g4.n]; decide
    have n5 : 5 < σ4.length := by rw [g4.n]; decide
    have g5 : Sg ((σ4.set 4 (some (.lst (cs2.map cut3)))).set 5 (some (.int r2))) ld lc bs cs2 r2 came := by
      refine ⟨by rw [List.length_set, List.length_set]; exact g4.n, ?_, ?_, ?_, ?_, ?_, ?_⟩
      · rw [List.getElem?_set_ne (by decide), List.getElem?_set_ne (by decide)]; exact g4.s1
      · rw [List.getElem?_set_ne (by decide), List.getElem?_set_ne (by decide)]; exact g4.s2
      · rw [List.getElem?_set_ne (by decide), List.getElem?_set_ne (by decide)]; exact g4.s3
      · rw [List.getElem?_set_ne (by decide), List.getElem?_set_self n4]
      · rw [List.getElem?_set_self (by rw [List.length_set]; exact n5)]
      · rw [List.getElem?_set_ne (by decide), List.getElem?_set_ne (by decide)]; exact g4.s6
    have p11 : ((σ4.set 4 (some (.lst (cs2.map cut3)))).set 5 (some (.int r2)))[11]? = some (some (.lst ((p0 :: rs).map rowOf))) := by rw [List.getElem?_set_ne (by decide), List.getElem?_set_ne (by decide)]; exact m11
    have p13 : ((σ4.set 4 (some (.lst (cs2.map cut3)))).set 5 (some (.int r2)))[13]? = some (some (.int left)) := by rw [List.getElem?_set_ne (by decide), List.getElem?_set_ne (by decide)]; exact m13
    generalize (σ4.set 4 (some (.lst (cs2.map cut3)))).set 5 (some (.int r2)) = σ5 at g5 p11 p13 ⊢
    have n30 : 30 < σ5.length := by rw [g5.n]; decide
    have hit : itSeq (getV 3) σ5 S' = .ok (bs.map fun p => D.str p.1) S' := run_of fun Q E hq => by
      simp only [itSeq, getV, wp_bind, wp_pure, g5.s3, itemsD_wp]
      rw [List.map_map]
      exact hq
    have gen : genE (itSeq (getV 3)) [30] (nameG 30) (orT (tst1 (bin2 neA (getV 30) (bin2 itemO (bin2 itemO (getV 11) (cst (.int 0))) (cst (.int 1))))) (tst1 (bin2 gtI (getV 13) (cst (.int 9))))) (tupV (consA (getV 30) (consA (ifV (tst1 (bin2 eqA (getV 30) (bin2 itemO (bin2 itemO (getV 11) (cst (.int 0))) (cst (.int 1))))) (getV 13) (bin2 itemO (getV 3) (getV 30))) nilA))) chkAll finLst σ5 S' = .ok (.lst ((cutB bs p0.1 left).map pairR)) S' := by
      rw [genE_ok (fun p : Str × Int => D.str p.1) bs (fun q => if (!decide (q.1 = p0.1) || decide (9 < left)) = true then some (pairR (q.1, if q.1 = p0.1 then left else q.2)) else none) hit (fun q hq0 => run_of fun Q E hq => ?_) (Nat.le_trans b.len (by decide)), filterMap_if]
      · unfold cutB
        rw [List.map_map]
        rfl
      have hv := val_bs b.nod hq0
      have e3 : ∀ v, (σ5.set 30 v)[3]? = some (some (.dct false (bs.map kvOf))) := fun v => by rw [List.getElem?_set_ne (by decide)]; exact g5.s3
      have e11 : ∀ v, (σ5.set 30 v)[11]? = some (some (.lst ((p0 :: rs).map rowOf))) := fun v => by rw [List.getElem?_set_ne (by decide)]; exact p11
      have e13 : ∀ v, (σ5.set 30 v)[13]? = some (some (.int left)) := fun v => by rw [List.getElem?_set_ne (by decide)]; exact p13
      simp only [bodG, nameG, tst1, orT, wipeE, bin2, getV, cst, wp_bind, wp_pure, wp_ite, List.set_set, List.getElem?_set_self n30, e3, e11, e13, ix, ix1, itemV_wp hv, neS_wp, eqS_wp, wp_gtI, wp_asB, tup2_wp, ifV]
      by_cases hn : q.1 = p0.1
      · simp only [hn, decide_true, Bool.not_true, Bool.false_or, Bool.false_eq_true, if_false, if_true] at hq ⊢
        by_cases h9' : decide (9 < left) = true
        · rw [if_pos h9'] at hq ⊢
          exact hq
        · rw [if_neg h9'] at hq ⊢
          exact hq
      · simp only [hn, decide_false, Bool.not_false, Bool.true_or, Bool.false_eq_true, if_false, if_true] at hq ⊢
        exact hq
    have hd : wp (dictV (consA (lockQ (locV 3) (genE (itSeq (getV 3)) [30] (nameG 30) (orT (tst1 (bin2 neA (getV 30) (bin2 itemO (bin2 itemO (getV 11) (cst (.int 0))) (cst (.int 1))))) (tst1 (bin2 gtI (getV 13) (cst (.int 9))))) (tupV (consA (getV 30) (consA (ifV (tst1 (bin2 eqA (getV 30) (bin2 itemO (bin2 itemO (getV 11) (cst (.int 0))) (cst (.int 1))))) (getV 13) (bin2 itemO (getV 3) (getV 30))) nilA))) chkAll finLst)) nilA) σ5) S' (fun d S1 => d = .dct false ((cutB bs p0.1 left).map kvOf) ∧ S1 = S') (fun _ _ => False) := by
      refine dictV1_wp ?_
      rw [lockD_wp g5.s3, wp_eq gen, dct_made (cutB_nodup _ _ b.nod)]
      exact ⟨rfl, rfl⟩
    obtain ⟨d, S1, e1, rfl, rfl⟩ := wp_out hd
    rw [wp_eq e1]
    have n3 : 3 < σ5.length := by rw [g5.n]; decide
    refine k _ S1 (cutB bs p0.1 left) cs2 r2 ⟨by rw [List.length_set]; exact g5.n, ?_, ?_, ?_, ?_, ?_, ?_⟩ (w.of_fr hfr hcup) ?_ (by rw [ec2, List.length_append]; exact Nat.le_refl _)
    · rw [List.getElem?_set_ne (by decide)]; exact g5.s1
    · rw [List.getElem?_set_ne (by decide)]; exact g5.s2
    · rw [List.getElem?_set_self n3]
    · rw [List.getElem?_set_ne (by decide)]; exact g5.s4
    · rw [List.getElem?_set_ne (by decide)]; exact g5.s5
    · rw [List.getElem?_set_ne (by decide)]; exact g5.s6
    · have hp2 := b.v p0 hp
      refine ⟨cutB_nodup _ _ b.nod, fun q hq => ?_, fun q hq => ?_, fun q hq => ?_, ?_⟩
      · obtain ⟨q', hq', e⟩ := List.mem_map.mp (cutB_mem hq).1
        rw [← e]
        exact b.nm q' hq'
      · rcases (cutB_mem hq).2 with h | ⟨h, _⟩
        · exact b.v q h
        · rw [h]
          omega
      · rw [ec2] at hq
        rcases List.mem_append.mp hq with hq | hq
        · exact b.c q hq
        · rw [List.mem_singleton] at hq
          subst hq
          show 0 ≤ nl ∧ nl ≤ 100
          omega
      · rw [cutB_sum left b.nod hp, ec2, List.map_append, List.sum_append, er2, b.came]
        show _ = _ + _ + (_ + (nl + 0))
        by_cases h : left < 10
        · rw [if_pos h, if_neg (by omega)]; omega
        · rw [if_neg h, if_pos (by omega)]; omega
theorem asg0_wp {Q : Fl → Sto → Prop} (g : Sg σ ld lc bs cs r came) (w : Wd S ld lc lb lu bs cs r)
    (k : ∀ i nl S', 0 ≤ i → i < 8 → 0 ≤ nl → nl < 90 → Wd S' ld lc lb lu bs cs r → Q (.nx ((σ.set 8 (some (.str (nmOf "b" i)))).set 9 (some (.int nl)))) S') : wp (asg0 σ) S Q E := by
  unfold asg0
  simp only [asgS, wp_bind, tup2_wp, bin2, cst, callE, consA, nilA, arg, getV, wp_pure, wp_ite, g.s1, List.length_cons, List.length_nil, show ((0 : Nat) + 1 + 1 = 2) = True from eq_true rfl, if_true]
  refine roll_wp w.dice (by decide) (by decide) fun i a b c h0 h1 => ?_
  have w1 := w.roll a b c
  generalize S.put ld _ = S1 at w1 ⊢
  simp only [str_wp h0 (Int.lt_trans h1 (by decide)), addN_wp (c := "b") h0 h1 (by decide)]
  refine roll_wp w1.dice (by decide) (by decide) fun nl a b c l0 l1 => ?_
  have w2 := w1.roll a b c
  generalize S1.put ld _ = S2 at w2 ⊢
  simp only [tupG, tupD, consG, nilG, nameG, wp_bind, wp_pure, wp_ite, List.length_cons, List.length_nil, if_true, show ((0 : Nat) + 1 + 1 = 2) = True from eq_true rfl]
  exact k i nl S2 h0 h1 l0 l1 w2
theorem step_wp {Q : Fl → Sto → Prop} {st : Int} (g : Sg σ ld lc bs cs r came) (h7 : σ[7]? = some (some (.int st))) (hc : cs.length ≤ 99) (w : Wd S ld lc lb lu bs cs r) (b : Bk bs cs r came)
    (k : ∀ σ' S' bs' cs' r' came', Sg σ' ld lc bs' cs' r' came' → Wd S' ld lc lb lu bs' cs' r' → Bk bs' cs' r' came' → cs'.length ≤ cs.length + 1 → Q (.nx σ') S') : wp (L_law_b0 σ) S Q E := by
  rw [b0_eq]
  simp only [seqS, wp_bind]
  refine asg0_wp g w fun i nl S1 i0 i1 l0 l1 w1 => ?_
  simp only
  have n8 : 8 < σ.length := by rw [g.n]; decide
  have n9 : 9 < σ.length := by rw [g.n]; decide
  have g1 := (g.set (i := 8) (by decide) (some (.str (nmOf "b" i)))).set (i := 9) (by decide) (some (.int nl))
  have k7 : ((σ.set 8 (some (.str (nmOf "b" i)))).set 9 (some (.int nl)))[7]? = some (some (.int st)) := by rw [List.getElem?_set_ne (by decide), List.getElem?_set_ne (by decide)]; exact h7
  have k8 : ((σ.set 8 (some (.str (nmOf "b" i)))).set 9 (some (.int nl)))[8]? = some (some (.str (nmOf "b" i))) := by rw [List.getElem?_set_ne (by decide), List.getElem?_set_self n8]
  have k9 : ((σ.set 8 (some (.str (nmOf "b" i)))).set 9 (some (.int nl)))[9]? = some (some (.int nl)) := by rw [List.getElem?_set_self (by rw [List.length_set]; exact n9)]
  generalize (σ.set 8 (some (.str (nmOf "b" i)))).set 9 (some (.int nl)) = σ1 at g1 k7 k8 k9 ⊢
  simp only [ifS, tst1, bin2, callE, consA, nilA, arg, getV, cst, wp_bind, wp_pure, wp_ite, g1.s1, List.length_cons, List.length_nil, show ((0 : Nat) + 1 + 1 = 2) = True from eq_true rfl, if_true]
  refine roll_wp w1.dice (by decide) (by decide) fun z a' b' c' _ _ => ?_
  have w2 := w1.roll a' b' c'
  generalize S1.put ld _ = S2 at w2 ⊢
  simp only [wp_eqI, wp_asB, decide_eq_true_eq]
  have hnm : nmOf "b" i ∈ names8 := by
    unfold names8
    refine List.mem_map.mpr ⟨i.toNat, List.mem_range.mpr (by omega), ?_⟩
    rw [Int.toNat_of_nonneg i0]
  by_cases hz : z = 0
  · rw [if_pos hz]
    refine add0_wp g1 k8 k9 hnm ⟨l0, by omega⟩ w2 b fun σ' S' bs' came' g' w' b' => ?_
    simp only
    exact chk_wp g' w' b' (by omega) (k _ _ _ _ _ _ g' w' b' (Nat.le_succ _))
  · rw [if_neg hz]
    refine cut0_wp g1 k7 k9 (by omega) hc w2 b fun σ' S' bs' cs' r' g' w' b' hc' => ?_
    simp only
    exact chk_wp g' w' b' (by omega) (k _ _ _ _ _ _ g' w' b' hc')
end
end K04

set_option Elab.async false
set_option linter.all false
set_option maxRecDepth 100000
set_option maxHeartbeats 1000000
namespace K04
open PySem PySem.Spec PyProof.Rows L2 LamX Fd
/-! ### rows of places and what is left: data -/
abbrev Wy := List Int × List Int
def encI (xs : List Int) : D := .tup (xs.map .int)
def encW (w : Wy) : D := .tup [encI w.1, encI w.2]
def kidW (len : Int) (w : Wy) (k : Nat) : Wy := (w.1 ++ [(k : Int)], w.2.set k (w.2.getD k 0 - len))
def extW (len : Int) (w : Wy) : List Wy := ((List.range w.2.length).filter fun k => decide (len ≤ w.2.getD k 0)).map (kidW len w)
def lostW (w : Wy) : List Int := ((List.range w.2.length).filter fun (k : Nat) => decide ((k : Int) ∈ w.1) && decide (w.2.getD k 0 < 10)).map fun (k : Nat) => w.2.getD k 0
def waysW (bolts lens : List Int) : List Wy := lens.foldl (fun found len => found.flatMap (extW len)) [([], bolts)]
section
variable {S : Sto} {E : Nat → Sto → Prop} {σ : En}
theorem ixT_wp {Q : D → Sto → Prop} {xs : List Int} {k : Nat} (h : k < xs.length) : wp (itemO (encI xs) (.int (k : Int))) S Q E = Q (.int (xs.getD k 0)) S := by
  refine wp_eq ?_
  show (match atI (xs.map D.int) (k : Int) with
    | some d => Fd.R.ok d S
    | none => .stk) = _
  have e : atI (xs.map D.int) (k : Int) = some (.int (xs.getD k 0)) := by
    have h1 : ixN (xs.map D.int).length (k : Int) = some k := by
      unfold ixN
      rw [List.length_map]
      first
        | (rw [if_pos (by omega)]; simp; done)
        | (simp; omega)
    unfold atI
    rw [h1]
    show (xs.map D.int)[k]? = _
    rw [List.getElem?_map, List.getD_eq_getElem?_getD, List.getElem?_eq_getElem h]
    rfl
  rw [e]
theorem lenT_wp {Q : D → Sto → Prop} (xs : List Int) : wp (lenC [encI xs]) S Q E = Q (.int xs.length) S := by
  refine wp_eq ?_
  have h : lenC [encI xs] S = .ok (.int (xs.map D.int).length) S := rfl
  rw [h, List.length_map]
theorem lenLst_wp {Q : D → Sto → Prop} (xs : List D) : wp (lenC [.lst xs]) S Q E = Q (.int xs.length) S := wp_eq rfl
theorem inT_wp {Q : D → Sto → Prop} (xs : List Int) (k : Int) : wp (inO (.int k) (encI xs)) S Q E = Q (.bl (decide (k ∈ xs))) S := by
  refine wp_eq ?_
  show (match py S (.int k), (py S (encI xs)).bind pyItems with
    | some a, some bs => Fd.R.ok (D.bl (bs.any fun z => PyData.eqv z a)) S
    | _, _ => .stk) = _
  have h : py S (encI xs) = some (.tuple (xs.map .int)) := by
    show ((xs.map D.int).mapM (toPy S 11)).map PyData.tuple = _
    rw [mapM_ints S 10]
    rfl
  rw [h]
  show Fd.R.ok (D.bl ((xs.map PyData.int).any fun z => PyData.eqv z (.int k))) S = _
  congr 2
  rw [Bool.eq_iff_iff, List.any_eq_true, decide_eq_true_eq]
  constructor
  · rintro ⟨z, hz, e⟩
    obtain ⟨i, hi, rfl⟩ := List.mem_map.mp hz
    rw [eqv_int, decide_eq_true_eq] at e
    rw [← e]
    exact hi
  · intro h
    exact ⟨.int k, List.mem_map.mpr ⟨k, h, rfl⟩, by rw [eqv_int]; simp⟩
theorem slT_wp {Q : D → Sto → Prop} (ds : List D) (lo hi : Option Int) : wp (sliceC (.tup ds) lo hi) S Q E = Q (.tup (Fd.cutD ds lo hi)) S := by
  refine wp_eq ?_
  show (if HT.sIx ds.length 0 lo = 0 ∧ HT.sIx ds.length ds.length hi = ds.length then Fd.R.ok (D.tup ds) S else .ok (.tup (Fd.cutD ds lo hi)) S) = _
  by_cases h : HT.sIx ds.length 0 lo = 0 ∧ HT.sIx ds.length ds.length hi = ds.length
  · rw [if_pos h]
    unfold Fd.cutD
    rw [h.1, h.2, List.drop_zero, Nat.sub_zero, List.take_length]
  · rw [if_neg h]
theorem cut_to (ds : List D) {k : Nat} (h : k ≤ ds.length) : Fd.cutD ds none (some (k : Int)) = ds.take k := by
  unfold Fd.cutD
  rw [HT.sIx_none, HT.sIx_nat, List.drop_zero, Nat.sub_zero, Nat.min_eq_left h]
theorem cut_from (ds : List D) {k : Nat} (h : k ≤ ds.length) : Fd.cutD ds (some (k : Int)) none = ds.drop k := by
  unfold Fd.cutD
  rw [HT.sIx_none, HT.sIx_nat, Nat.min_eq_left h]
  exact List.take_of_length_le (by rw [List.length_drop]; exact Nat.le_refl _)
theorem addT_wp {Q : D → Sto → Prop} (xs ys : List D) (h : xs.length + ys.length ≤ sizeLine) : wp (addA (.tup xs) (.tup ys)) S Q E = Q (.tup (xs ++ ys)) S := by
  refine wp_eq ?_
  show (if xs.length + ys.length ≤ sizeLine then M.pure (D.tup (xs ++ ys)) else M.stk : M D) S = _
  rw [if_pos h]
  rfl
theorem tup1_wp {Q : D → Sto → Prop} {fa : En → M D} : wp (tupV (consA fa nilA) σ) S Q E = wp (fa σ) S (fun a S1 => Q (.tup [a]) S1) E := by
  simp only [tupV, consA, nilA, wp_bind, wp_pure, wp_ite, List.length_cons, List.length_nil, show (0 + 1 ≤ sizeLine) = True from eq_true (by decide), if_true]
theorem tup0_wp {Q : D → Sto → Prop} : wp (tupV nilA σ) S Q E = Q (.tup []) S := by
  simp only [tupV, nilA, wp_bind, wp_pure, wp_ite, List.length_nil, show (0 ≤ sizeLine) = True from eq_true (Nat.zero_le _), if_true]
theorem kid_wp {Q : D → Sto → Prop} {fr ft fk fl : En → M D} {w : Wy} {k : Nat} {len : Int} (hr : fr σ S = .ok (encI w.1) S) (ht : ft σ S = .ok (encI w.2) S) (hk : fk σ S = .ok (.int (k : Int)) S) (hl : fl σ S = .ok (.int len) S) (h : k < w.2.length) (z1 : w.1.length ≤ 1000) (z2 : w.2.length ≤ 1000) :
    wp (tupV (consA (bin2 addA fr (tupV (consA fk nilA))) (consA (bin2 addA (bin2 addA (sliceE ft none (some fk)) (tupV (consA (bin2 subI (bin2 itemO ft fk) fl) nilA))) (sliceE ft (some (bin2 addA fk (cst (.int 1)))) none)) nilA)) σ) S Q E = Q (encW (kidW len w k)) S := by
  have hb : 2001 ≤ sizeLine := by decide
  have k1 : (k : Int) + 1 = ((k + 1 : Nat) : Int) := by omega
  have hz1 : (w.1.map D.int).length + [D.int (k : Int)].length ≤ sizeLine := by rw [List.length_map]; show _ + 1 ≤ _; omega
  have hz2 : ((w.2.map D.int).take k).length + [D.int (w.2.getD k 0 - len)].length ≤ sizeLine := by
    rw [List.length_take, List.length_map]
    show _ + 1 ≤ _
    omega
  have hz3 : ((w.2.map D.int).take k ++ [D.int (w.2.getD k 0 - len)]).length + ((w.2.map D.int).drop (k + 1)).length ≤ sizeLine := by
    rw [List.length_append, List.length_take, List.length_drop, List.length_map]
    show _ + 1 + _ ≤ _
    omega
  have hi : ∀ {Q : D → Sto → Prop} {E : Nat → Sto → Prop}, wp (itemO (.tup (w.2.map D.int)) (.int (k : Int))) S Q E = Q (.int (w.2.getD k 0)) S := fun {Q E} => ixT_wp h
  unfold encI at hr ht
  simp only [tup2_wp, bin2, wp_bind, wp_eq hr, tup1_wp, wp_eq hk, sliceE, wp_eq ht, partD, wp_pure, cst, wp_addI, k1, slT_wp, cut_to (w.2.map D.int) (k := k) (by rw [List.length_map]; omega), cut_from (w.2.map D.int) (k := k + 1) (by rw [List.length_map]; omega), addT_wp _ _ hz1, wp_eq hl, hi, wp_subI, addT_wp _ _ hz2, addT_wp _ _ hz3]
  have e : (w.2.map D.int).take k ++ [D.int (w.2.getD k 0 - len)] ++ (w.2.map D.int).drop (k + 1) = (w.2.set k (w.2.getD k 0 - len)).map D.int := by
    rw [List.set_eq_take_append_cons_drop, if_pos h, List.map_append, List.map_cons, List.map_take, List.map_drop, List.append_assoc]
    rfl
  rw [e]
  unfold encW kidW encI
  rw [List.map_append]
  rfl
theorem rng_wp {fa : En → M D} {n : Nat} (h : fa σ S = .ok (.int (n : Int)) S) (hn : n ≤ 1000000) : rng1 fa σ S = .ok ((List.range n).map fun (i : Nat) => D.int (i : Int)) S := by
  refine run_of fun Q E hq => ?_
  unfold rng1
  rw [wp_bind, wp_eq h]
  simp only [wp_ite, wp_pure]
  rw [if_pos (by omega)]
  unfold rangeI
  simp only [Int.zero_add, Int.toNat_natCast]
  exact hq
/-- one place of a row, as both sides look at it -/
theorem lost_bod {ix a b : Nat} {w : Wy} (hn : ix < σ.length) (ha : a ≠ ix) (hb : b ≠ ix) (h1 : σ[a]? = some (some (encI w.1))) (h2 : σ[b]? = some (some (encI w.2))) {k : Nat} (hk : k < w.2.length) :
    bodG [ix] (nameG ix) (andT (tst1 (bin2 inO (getV ix) (getV a))) (tst1 (bin2 ltA (bin2 itemO (getV b) (getV ix)) (cst (.int 10))))) (bin2 itemO (getV b) (getV ix)) σ (.int (k : Int)) S = .ok (if (decide ((k : Int) ∈ w.1) && decide (w.2.getD k 0 < 10)) = true then some (.int (w.2.getD k 0)) else none) S := by
  refine run_of fun Q E hq => ?_
  have e1 : ∀ v, (σ.set ix v)[a]? = some (some (encI w.1)) := fun v => by rw [List.getElem?_set_ne (Ne.symm ha)]; exact h1
  have e2 : ∀ v, (σ.set ix v)[b]? = some (some (encI w.2)) := fun v => by rw [List.getElem?_set_ne (Ne.symm hb)]; exact h2
  simp only [bodG, nameG, tst1, andT, wipeE, bin2, getV, cst, wp_bind, wp_pure, wp_ite, List.set_set, List.getElem?_set_self hn, e1, e2, inT_wp, wp_asB, ixT_wp hk, wp_ltI]
  by_cases c1 : decide ((k : Int) ∈ w.1) = true
  · rw [if_pos c1]
    rw [c1, Bool.true_and] at hq
    by_cases c2 : decide (w.2.getD k 0 < 10) = true
    · rw [if_pos c2] at hq ⊢
      exact hq
    · rw [if_neg c2] at hq ⊢
      exact hq
  · rw [if_neg c1]
    rw [if_neg (by rw [Bool.and_eq_true]; exact fun z => c1 z.1)] at hq
    exact hq
theorem genL_sum {α : Type} {bod : D → M (Option D)} {Q : D → Sto → Prop} (enc : α → D) (f : α → Option Int) : ∀ (xs : List α) (ys : List D), (∀ x ∈ xs, bod (enc x) S = .ok ((f x).map D.int) S) → (∀ x ∈ xs, ∀ i, f x = some i → 0 ≤ i) → 0 ≤ (ys.map dI).sum → (ys.map dI).sum + (xs.filterMap f).sum < 2 ^ 63 →
    Q (.int ((ys.map dI).sum + (xs.filterMap f).sum)) S → wp (genL bod chkSum finSum ys (xs.map enc)) S Q E
  | [], ys, _, _, _, _, h => by
    rw [List.filterMap_nil, List.sum_nil, Int.add_zero] at h
    exact h
  | d :: ds, ys, hb, hp, h0, hs, h => by
    rw [List.map_cons]
    unfold genL
    rw [wp_bind]
    refine wp_nox (wp_of (hb d List.mem_cons_self) ?_)
    have hb' := fun x hx => hb x (List.mem_cons_of_mem d hx)
    have hp' := fun x hx => hp x (List.mem_cons_of_mem d hx)
    cases ef : f d with
    | none =>
      rw [List.filterMap_cons, ef] at h hs
      exact genL_sum enc f ds ys hb' hp' h0 hs h
    | some x =>
      rw [List.filterMap_cons, ef] at h hs
      simp only [List.sum_cons] at h hs
      have hx := hp d List.mem_cons_self x ef
      have hr : 0 ≤ (ds.filterMap f).sum := sum_nonneg _ fun y hy => by
        obtain ⟨z, hz, ez⟩ := List.mem_filterMap.mp hy
        exact hp' z hz y ez
      have hc : chkSum ys (.int x) = some none := by
        show (if (inLong x && inLong ((ys.map dI).sum + x)) = true then some none else none) = _
        rw [if_pos]
        unfold inLong
        simp only [Bool.and_eq_true, decide_eq_true_eq]
        refine ⟨⟨?_, ?_⟩, ?_, ?_⟩ <;> omega
      simp only [Option.map_some, hc]
      have e : ((ys ++ [D.int x]).map dI).sum = (ys.map dI).sum + x := by
        rw [List.map_append, List.sum_append]
        show _ + (x + 0) = _
        omega
      refine genL_sum enc f ds (ys ++ [.int x]) hb' hp' (by rw [e]; omega) (by rw [e]; omega) ?_
      rw [e, Int.add_assoc]
      exact h
theorem genS_ok {α : Type} {fit : En → M (List D)} {vs : List Nat} {g : D → En → M En} {t : En → M Bool} {fe : En → M D} (enc : α → D) (xs : List α) (f : α → Option Int) (hit : fit σ S = .ok (xs.map enc) S) (hb : ∀ x ∈ xs, bodG vs g t fe σ (enc x) S = .ok ((f x).map D.int) S)
    (hp : ∀ x ∈ xs, ∀ i, f x = some i → 0 ≤ i) (hs : (xs.filterMap f).sum < 2 ^ 63) : genE fit vs g t fe chkSum finSum σ S = .ok (.int (xs.filterMap f).sum) S := run_of fun Q E hq => by
  unfold genE
  rw [wp_bind, wp_eq hit]
  refine genL_sum enc f xs [] hb hp (Int.le_refl _) (by simpa using hs) ?_
  simpa using hq
/-! ### the law's own ways -/
structure Wb (n nb : Nat) (found : List Wy) : Prop where
  l : found.length ≤ 3 ^ n
  w : ∀ w ∈ found, w.1.length = n ∧ w.2.length = nb
theorem extW_len {len : Int} {w : Wy} : (extW len w).length ≤ w.2.length := by
  unfold extW
  rw [List.length_map]
  exact Nat.le_trans (List.length_filter_le _ _) (by rw [List.length_range]; exact Nat.le_refl _)
theorem extW_mem {len : Int} {w v : Wy} (h : v ∈ extW len w) : v.1.length = w.1.length + 1 ∧ v.2.length = w.2.length := by
  unfold extW at h
  obtain ⟨k, _, rfl⟩ := List.mem_map.mp h
  unfold kidW
  exact ⟨by rw [List.length_append]; rfl, by rw [List.length_set]⟩
theorem flat_len {nb : Nat} (hnb : nb ≤ 3) (len : Int) : ∀ found : List Wy, (∀ w ∈ found, w.2.length = nb) → (found.flatMap (extW len)).length ≤ 3 * found.length
  | [], _ => Nat.zero_le _
  | w :: found, h => by
    rw [List.flatMap_cons, List.length_append, List.length_cons]
    have h1 := extW_len (len := len) (w := w)
    have h2 := h w List.mem_cons_self
    have h3 := flat_len hnb len found fun v hv => h v (List.mem_cons_of_mem _ hv)
    omega
theorem Wb.next {n nb : Nat} {found : List Wy} (hnb : nb ≤ 3) (h : Wb n nb found) (len : Int) : Wb (n + 1) nb (found.flatMap (extW len)) := by
  refine ⟨?_, fun v hv => ?_⟩
  · have h1 := flat_len hnb len found fun w hw => (h.w w hw).2
    have h2 := h.l
    rw [Nat.pow_succ]
    omega
  · obtain ⟨w, hw, hv⟩ := List.mem_flatMap.mp hv
    obtain ⟨h1, h2⟩ := extW_mem hv
    obtain ⟨h3, h4⟩ := h.w w hw
    omega
theorem tupLst_wp {Q : D → Sto → Prop} (xs : List Int) : wp (tupC [.lst (xs.map .int)]) S Q E = Q (encI xs) S := wp_eq rfl
theorem waysB0_wp {Q : Fl → Sto → Prop} {w : Wy} {fresh : List Wy} {len : Int} {nb n : Nat} (hn : σ.length = 8) (h3 : σ[3]? = some (some (.int len))) (h4 : σ[4]? = some (some (.lst (fresh.map encW)))) (h5 : σ[5]? = some (some (encI w.1))) (h6 : σ[6]? = some (some (encI w.2))) (hw1 : w.1.length ≤ 1000) (hw2 : w.2.length ≤ 3) (hf : fresh.length ≤ 100000)
    (k : Q (.nx (σ.set 4 (some (.lst ((fresh ++ extW len w).map encW))))) S) : wp (L_lawWays_b0 σ) S Q E := by
  have n7 : 7 < σ.length := by rw [hn]; decide
  have hit : rng1 (callE (consA (getV 6) nilA) lenC) σ S = .ok ((List.range w.2.length).map fun (i : Nat) => D.int (i : Int)) S := by
    refine rng_wp ?_ (by omega)
    refine run_of fun Q E hq => ?_
    simp only [callE, consA, nilA, getV, h6, wp_bind, wp_pure, lenT_wp]
    exact hq
  have gen : genE (rng1 (callE (consA (getV 6) nilA) lenC)) [7] (nameG 7) (tst1 (bin2 geI (bin2 itemO (getV 6) (getV 7)) (getV 3))) (tupV (consA (bin2 addA (getV 5) (tupV (consA (getV 7) nilA))) (consA (bin2 addA (bin2 addA (sliceE (getV 6) none (some (getV 7))) (tupV (consA (bin2 subI (bin2 itemO (getV 6) (getV 7)) (getV 3)) nilA))) (sliceE (getV 6) (some (bin2 addA (getV 7) (cst (.int 1)))) none)) nilA))) chkAll finLst σ S = .ok (.lst ((extW len w).map encW)) S := by
    rw [genE_ok (fun (i : Nat) => D.int (i : Int)) (List.range w.2.length) (fun k => if decide (len ≤ w.2.getD k 0) = true then some (encW (kidW len w k)) else none) hit (fun k hk => run_of fun Q E hq => ?_) (by rw [List.length_range]; exact Nat.le_trans hw2 (by decide)), filterMap_if]
    · unfold extW
      rw [List.map_map]
      rfl
    have hk := List.mem_range.mp hk
    have e3 : ∀ v, (σ.set 7 v)[3]? = some (some (.int len)) := fun v => by rw [List.getElem?_set_ne (by decide)]; exact h3
    have e5 : ∀ v, (σ.set 7 v)[5]? = some (some (encI w.1)) := fun v => by rw [List.getElem?_set_ne (by decide)]; exact h5
    have e6 : ∀ v, (σ.set 7 v)[6]? = some (some (encI w.2)) := fun v => by rw [List.getElem?_set_ne (by decide)]; exact h6
    have e7 : ∀ v, (σ.set 7 v)[7]? = some v := fun v => List.getElem?_set_self n7
    have kd : ∀ {Q : D → Sto → Prop} {E : Nat → Sto → Prop}, wp (tupV (consA (bin2 addA (getV 5) (tupV (consA (getV 7) nilA))) (consA (bin2 addA (bin2 addA (sliceE (getV 6) none (some (getV 7))) (tupV (consA (bin2 subI (bin2 itemO (getV 6) (getV 7)) (getV 3)) nilA))) (sliceE (getV 6) (some (bin2 addA (getV 7) (cst (.int 1)))) none)) nilA)) (σ.set 7 (some (.int (k : Int))))) S Q E = Q (encW (kidW len w k)) S := fun {Q E} => by
      refine kid_wp ?_ ?_ ?_ ?_ hk hw1 (by omega)
      · unfold getV; rw [e5]; rfl
      · unfold getV; rw [e6]; rfl
      · unfold getV; rw [e7]; rfl
      · unfold getV; rw [e3]; rfl
    simp only [bodG, nameG, wipeE, wp_bind, wp_pure, wp_ite, List.set_set, tst1, bin2, getV, e3, e6, e7, ixT_wp hk, wp_geI, wp_asB]
    by_cases c : decide (len ≤ w.2.getD k 0) = true
    · rw [if_pos c] at hq ⊢
      rw [kd]
      exact hq
    · rw [if_neg c] at hq ⊢
      exact hq
  have hz : (fresh.map encW).length + ((extW len w).map encW).length ≤ sizeLine := by
    rw [List.length_map, List.length_map]
    have := extW_len (len := len) (w := w)
    have : 100003 ≤ sizeLine := by decide
    omega
  unfold L_lawWays_b0
  simp only [setS, bin2, wp_bind, wp_pure, getV, h4]
  rw [wp_eq gen]
  rw [addL_wp _ _ hz, ← List.map_append]
  exact k
end
end K04

set_option Elab.async false
set_option linter.all false
set_option maxRecDepth 100000
set_option maxHeartbeats 1000000
namespace K04
open PySem PySem.Spec PyProof.Rows L2 LamX Fd
section
variable {S : Sto} {E : Nat → Sto → Prop} {σ : En}
theorem itemsL_wp {Q : List D → Sto → Prop} (ds : List D) : wp (itemsOf (.lst ds)) S Q E = Q ds S := rfl
/-- one length: all ways so far, each with all its places -/
theorem waysB1_wp {Q : Fl → Sto → Prop} {found : List Wy} {len : Int} {nb n : Nat} (hnb : nb ≤ 3) (hn5 : n < 5) (W : Wb n nb found) (hn : σ.length = 8) (h2 : σ[2]? = some (some (.lst (found.map encW)))) (h3 : σ[3]? = some (some (.int len)))
    (k : ∀ σ' : En, σ'.length = 8 → (∀ j, j < 2 → σ'[j]? = σ[j]?) → σ'[2]? = some (some (.lst ((found.flatMap (extW len)).map encW))) → Q (.nx σ') S) : wp (L_lawWays_b1 σ) S Q E := by
  have n2 : 2 < σ.length := by rw [hn]; decide
  have n4 : 4 < σ.length := by rw [hn]; decide
  have hpow : 3 ^ n ≤ 81 := by
    have : n = 0 ∨ n = 1 ∨ n = 2 ∨ n = 3 ∨ n = 4 := by omega
    rcases this with rfl | rfl | rfl | rfl | rfl <;> decide
  have hcap := W.l
  unfold L_lawWays_b1
  simp only [seqS, setS, wp_bind, lst0_wp, wp_pure]
  have e2 : (σ.set 4 (some (D.lst [])))[2]? = some (some (.lst (found.map encW))) := by rw [List.getElem?_set_ne (by decide)]; exact h2
  rw [lockL_wp e2]
  simp only [forS, itSeq, getV, e2, wp_bind, wp_pure, itemsL_wp]
  refine wp_loop (fun ds σ' S' => S' = S ∧ ∃ done todo, found = done ++ todo ∧ ds = todo.map encW ∧ σ'.length = 8 ∧ (∀ j, j < 4 → σ'[j]? = σ[j]?) ∧ σ'[4]? = some (some (.lst ((done.flatMap (extW len)).map encW)))) (fun d ds σ' S' h => ?_) (fun σ' S' h => ?_) _ _ _ ⟨rfl, [], found, rfl, rfl, by rw [List.length_set]; exact hn, fun j hj => List.getElem?_set_ne (by omega), List.getElem?_set_self n4⟩
  · obtain ⟨rfl, done, todo, hf, hd, hn', hs, h4⟩ := h
    cases todo with
    | nil => cases hd
    | cons w todo =>
      rw [List.map_cons] at hd
      injection hd with hd1 hd2
      subst hd1
      have hw : w ∈ found := by rw [hf]; exact List.mem_append_right _ List.mem_cons_self
      obtain ⟨w1, w2⟩ := W.w w hw
      have t2 : tupD (encW w) = some [encI w.1, encI w.2] := rfl
      simp only [tupG, t2, consG, nilG, nameG, wp_bind, wp_pure, wp_ite, List.length_cons, List.length_nil, if_true, show ((0 : Nat) + 1 + 1 = 2) = True from eq_true rfl]
      have hdl : (done.flatMap (extW len)).length ≤ 100000 := by
        have h1 := flat_len hnb len done fun v hv => (W.w v (by rw [hf]; exact List.mem_append_left _ hv)).2
        have h2 : done.length ≤ found.length := by rw [hf, List.length_append]; omega
        omega
      refine waysB0_wp (w := w) (fresh := done.flatMap (extW len)) (len := len) (nb := nb) (n := n) (by rw [List.length_set, List.length_set]; exact hn') ?_ ?_ ?_ ?_ (by omega) (by omega) hdl ?_
      · rw [List.getElem?_set_ne (by decide), List.getElem?_set_ne (by decide), hs 3 (by decide)]; exact h3
      · rw [List.getElem?_set_ne (by decide), List.getElem?_set_ne (by decide)]; exact h4
      · rw [List.getElem?_set_ne (by decide), List.getElem?_set_self (by rw [hn']; decide)]
      · rw [List.getElem?_set_self (by rw [List.length_set, hn']; decide)]
      · refine ⟨rfl, done ++ [w], todo, by rw [hf, List.append_assoc]; rfl, hd2, by rw [List.length_set, List.length_set, List.length_set]; exact hn', fun j hj => ?_, ?_⟩
        · rw [List.getElem?_set_ne (by omega), List.getElem?_set_ne (by omega), List.getElem?_set_ne (by omega)]
          exact hs j hj
        · rw [List.getElem?_set_self (by rw [List.length_set, List.length_set, hn']; decide), List.flatMap_append, List.flatMap_cons, List.flatMap_nil, List.append_nil]
  · obtain ⟨rfl, done, todo, hf, hd, hn', hs, h4⟩ := h
    have hd : todo = [] := List.map_eq_nil_iff.mp hd.symm
    subst hd
    rw [List.append_nil] at hf
    subst hf
    simp only [h4, wp_pure]
    refine k _ (by rw [List.length_set]; exact hn') (fun j hj => ?_) ?_
    · rw [List.getElem?_set_ne (by omega)]
      exact hs j (by omega)
    · rw [List.getElem?_set_self (by rw [hn']; decide)]
theorem ways_wp {Q : D → Sto → Prop} {bolts lens : List Int} (hb : bolts.length ≤ 3) (hl : lens.length ≤ 5) (k : Q (.lst ((waysW bolts lens).map encW)) S) : wp (D_lawWays [.lst (bolts.map .int), .lst (lens.map .int)]) S Q E := by
  unfold D_lawWays bodyD dn_lawWays
  rw [show startD 8 [D.lst (bolts.map .int), .lst (lens.map .int)] = [some (.lst (bolts.map .int)), some (.lst (lens.map .int)), none, none, none, none, none, none] from rfl]
  simp only [seqS, setS, wp_bind, lst1_wp, tup2_wp, tup0_wp, callE, consA, nilA, getV, wp_pure, List.getElem?_cons_zero, List.set_cons_zero, List.set_cons_succ, tupLst_wp]
  have e1 : ∀ x, ([some (D.lst (bolts.map .int)), some (.lst (lens.map .int)), x, none, none, none, none, none] : En)[1]? = some (some (.lst (lens.map .int))) := fun _ => rfl
  rw [lockL_wp (e1 _)]
  simp only [forS, itSeq, getV, wp_bind, wp_pure, List.getElem?_cons_zero, List.getElem?_cons_succ, itemsL_wp]
  refine wp_loop (fun ds σ' S' => S' = S ∧ ∃ done todo, lens = done ++ todo ∧ ds = todo.map .int ∧ σ'.length = 8 ∧ Wb done.length bolts.length (waysW bolts done) ∧ σ'[2]? = some (some (.lst ((waysW bolts done).map encW)))) (fun d ds σ' S' h => ?_) (fun σ' S' h => ?_) _ _ _ ⟨rfl, [], lens, rfl, rfl, rfl, ⟨Nat.le_refl _, fun w hw => ?_⟩, rfl⟩
  · obtain ⟨rfl, done, todo, hf, hd, hn', W, h2⟩ := h
    cases todo with
    | nil => cases hd
    | cons len todo =>
      rw [List.map_cons] at hd
      injection hd with hd1 hd2
      subst hd1
      simp only [nameG, wp_pure]
      have hdl : done.length < 5 := by rw [hf, List.length_append, List.length_cons] at hl; omega
      refine waysB1_wp hb hdl W (len := len) (by rw [List.length_set]; exact hn') (by rw [List.getElem?_set_ne (by decide)]; exact h2) (List.getElem?_set_self (by rw [hn']; decide)) fun σ2 hn2 _ h22 => ?_
      have ew : waysW bolts (done ++ [len]) = (waysW bolts done).flatMap (extW len) := by
        unfold waysW
        rw [List.foldl_append]
        rfl
      refine ⟨rfl, done ++ [len], todo, by rw [hf, List.append_assoc]; rfl, hd2, hn2, ?_, ?_⟩
      · rw [ew, List.length_append]
        exact W.next hb len
      · rw [ew]
        exact h22
  · obtain ⟨rfl, done, todo, hf, hd, hn', W, h2⟩ := h
    have hd : todo = [] := List.map_eq_nil_iff.mp hd.symm
    subst hd
    rw [List.append_nil] at hf
    subst hf
    simp only [retS, getV, h2, wp_bind, wp_pure]
    exact k
  · unfold waysW at hw
    rw [List.foldl_nil, List.mem_singleton] at hw
    subst hw
    exact ⟨rfl, rfl⟩
theorem waysW_ok {bolts lens : List Int} (hb : bolts.length ≤ 3) (hl : lens.length ≤ 5) : Wb lens.length bolts.length (waysW bolts lens) := by
  have key : ∀ todo done : List Int, done.length + todo.length ≤ 5 → Wb done.length bolts.length (waysW bolts done) → Wb (done ++ todo).length bolts.length (waysW bolts (done ++ todo)) := by
    intro todo
    induction todo with
    | nil => intro done _ h; rw [List.append_nil]; exact h
    | cons len todo ih =>
      intro done h W
      have ew : waysW bolts (done ++ [len]) = (waysW bolts done).flatMap (extW len) := by
        unfold waysW
        rw [List.foldl_append]
        rfl
      have := ih (done ++ [len]) (by rw [List.length_append]; rw [List.length_cons] at h; simp only [List.length_cons, List.length_nil]; omega) (by rw [ew, List.length_append]; exact W.next hb len)
      rw [List.append_assoc] at this
      exact this
  have := key lens [] (by simpa using hl) ⟨Nat.le_refl _, fun w hw => by
    unfold waysW at hw
    rw [List.foldl_nil, List.mem_singleton] at hw
    subst hw
    exact ⟨rfl, rfl⟩⟩
  rw [List.nil_append] at this
  exact this
end
/-! ### the least key -/
abbrev Ky := Int × List Int
def keyW (w : Wy) : Ky := ((lostW w).sum, w.1)
def encK (a : Ky) : D := .tup [.int a.1, encI a.2]
def kP (a : Ky) : PyData := .tuple [.int a.1, .tuple (a.2.map .int)]
theorem alikeI : ∀ xs ys : List Int, PySem.W.alikeAll (xs.map PyData.int) (ys.map .int) = true
  | [], _ => by simp [PySem.W.alikeAll]
  | _ :: _, [] => by simp [PySem.W.alikeAll]
  | x :: xs, y :: ys => by simp [PySem.W.alikeAll, PySem.W.alike, alikeI xs ys]
theorem alike_kP (a b : Ky) : PySem.W.alike (kP a) (kP b) = true := by
  simp [kP, PySem.W.alike, PySem.W.alikeAll, alikeI]
theorem eqvI : ∀ xs ys : List Int, PyData.eqvAll (xs.map PyData.int) (ys.map .int) = true → xs = ys
  | [], [], _ => rfl
  | [], _ :: _, h => by simp [PyData.eqvAll] at h
  | _ :: _, [], h => by simp [PyData.eqvAll] at h
  | x :: xs, y :: ys, h => by
    simp [PyData.eqvAll, PyData.eqv] at h
    rw [h.1, eqvI xs ys (by simpa using h.2)]
theorem kP_total {a b : Ky} (h1 : PySem.W.dataLt (kP a) (kP b) = false) (h2 : PySem.W.dataLt (kP b) (kP a) = false) : a = b := by
  have al : ∀ xs ys : List Int, PySem.W.alike (.tuple (xs.map PyData.int)) (.tuple (ys.map .int)) = true := fun xs ys => by simp [PySem.W.alike, alikeI]
  have ai : ∀ x y : Int, PySem.W.alike (.int x) (.int y) = true := fun x y => by simp [PySem.W.alike]
  unfold kP at h1 h2
  rw [PySem.W.dataLt_pair (ai _ _) (al _ _), eqv_int, PySem.W.dataLt_int] at h1 h2
  have e1 : a.1 = b.1 := by
    by_cases h : a.1 = b.1
    · exact h
    · have h' : ¬ b.1 = a.1 := fun z => h z.symm
      simp only [h, h', decide_false, Bool.false_eq_true, if_false, decide_eq_false_iff_not] at h1 h2
      omega
  simp only [e1, decide_true, if_true] at h1 h2
  have e2 : a.2 = b.2 := by
    by_cases h : PyData.eqv (.tuple (a.2.map .int)) (.tuple (b.2.map .int)) = true
    · exact eqvI _ _ (by simpa [PyData.eqv] using h)
    · have hs : ¬ PyData.eqv (.tuple (b.2.map .int)) (.tuple (a.2.map .int)) = true := fun z => by
        have z := eqvI _ _ (by simpa [PyData.eqv] using z)
        rw [z] at h
        exact h (by rw [eqvT_refl]; intro p hp; obtain ⟨i, _, rfl⟩ := List.mem_map.mp hp; rw [eqv_int]; simp)
      rw [if_neg h, PySem.W.dataLt_tuple] at h1
      rw [if_neg hs, PySem.W.dataLt_tuple] at h2
      have h1 : PySem.W.rowLt (a.2.map .int) (b.2.map .int) = false := h1
      have h2 : PySem.W.rowLt (b.2.map .int) (a.2.map .int) = false := h2
      rw [PySem.W.dataLt_ints, decide_eq_false_iff_not] at h1 h2
      exact List.le_antisymm h2 h1
  cases a; cases b
  simp only at e1 e2
  rw [e1, e2]
/-- b is a least key of the list -/
def Least (b : Ky) (ks : List Ky) : Prop := b ∈ ks ∧ ∀ x ∈ ks, PySem.W.dataLt (kP x) (kP b) = false
theorem Least.uniq {b c : Ky} {ks ls : List Ky} (h1 : Least b ks) (h2 : Least c ls) (e : ∀ x, x ∈ ks ↔ x ∈ ls) : b = c := kP_total (h2.2 b ((e b).mp h1.1)) (h1.2 c ((e c).mpr h2.1))
theorem fold_min : ∀ (l : List (D × PyData)) (x : D × PyData), (l.foldl pickP x = x ∨ l.foldl pickP x ∈ l) ∧ ∀ y, y = x ∨ y ∈ l → PySem.W.dataLt y.2 (l.foldl pickP x).2 = false
  | [], x => ⟨.inl rfl, fun y hy => by
    rcases hy with rfl | hy
    · exact PyProof.Rows.lex_irrefl (O := PyProof.Rows.itemOrd) _
    · cases hy⟩
  | z :: l, x => by
    have tr : ∀ a b c : PyData, PySem.W.dataLt a b = true → PySem.W.dataLt b c = true → PySem.W.dataLt a c = true := fun a b c h1 h2 => PyProof.Rows.lex_trans (O := PyProof.Rows.itemOrd) _ _ _ h1 h2
    have ng : ∀ a b c : PyData, PySem.W.dataLt a c = true → PySem.W.dataLt a b = true ∨ PySem.W.dataLt b c = true := fun a b c h => PyProof.Rows.lex_negTrans (O := PyProof.Rows.itemOrd) _ _ _ h
    have ih := fold_min l (pickP x z)
    rw [List.foldl_cons]
    have hp : pickP x z = x ∨ pickP x z = z := by unfold pickP; by_cases h : PySem.W.dataLt z.2 x.2 = true <;> simp [h]
    refine ⟨?_, fun y hy => ?_⟩
    · rcases ih.1 with h | h
      · rw [h]
        rcases hp with h2 | h2
        · exact .inl h2
        · exact .inr (by rw [h2]; exact List.mem_cons_self)
      · exact .inr (List.mem_cons_of_mem _ h)
    · have hpm := ih.2 (pickP x z) (.inl rfl)
      have less : ∀ q : D × PyData, PySem.W.dataLt q.2 (pickP x z).2 = false → PySem.W.dataLt q.2 (l.foldl pickP (pickP x z)).2 = false := fun q hq => by
        cases e : PySem.W.dataLt q.2 (l.foldl pickP (pickP x z)).2 with
        | false => rfl
        | true =>
          rcases ng _ (pickP x z).2 _ e with h | h
          · rw [hq] at h; cases h
          · rw [hpm] at h; cases h
      have irr : ∀ a : PyData, PySem.W.dataLt a a = false := fun a => PyProof.Rows.lex_irrefl (O := PyProof.Rows.itemOrd) _
      have hx : PySem.W.dataLt x.2 (pickP x z).2 = false := by
        unfold pickP
        by_cases h : PySem.W.dataLt z.2 x.2 = true
        · rw [if_pos h]
          cases e : PySem.W.dataLt x.2 z.2 with
          | false => rfl
          | true => have := tr _ _ _ e h; rw [irr] at this; cases this
        · rw [if_neg h]; exact irr _
      have hz : PySem.W.dataLt z.2 (pickP x z).2 = false := by
        unfold pickP
        by_cases h : PySem.W.dataLt z.2 x.2 = true
        · rw [if_pos h]; exact irr _
        · rw [if_neg h]; simpa using h
      rcases hy with rfl | hy
      · exact less _ hx
      · rcases List.mem_cons.mp hy with rfl | hy
        · exact less _ hz
        · exact ih.2 y (.inr hy)
/-- the sorted keys -/
def sortK (ks : List Ky) : List D := sortP ((ks.map encK).zip (ks.map kP))
theorem sortK_head {ks : List Ky} (h : ks ≠ []) : ∃ b r, sortK ks = encK b :: r ∧ Least b ks := by
  unfold sortK
  rw [zip_self]
  cases ks with
  | nil => exact absurd rfl h
  | cons a ks =>
    rw [List.map_cons]
    unfold sortP
    have hh := head_isort (ks.map fun x => (encK x, kP x)) (encK a, kP a)
    have hf := fold_min (ks.map fun x => (encK x, kP x)) (encK a, kP a)
    obtain ⟨b, hb, eb⟩ : ∃ b ∈ a :: ks, (ks.map fun x => (encK x, kP x)).foldl pickP (encK a, kP a) = (encK b, kP b) := by
      rcases hf.1 with h | h
      · exact ⟨a, List.mem_cons_self, h⟩
      · obtain ⟨b, hb, e⟩ := List.mem_map.mp h
        exact ⟨b, List.mem_cons_of_mem _ hb, e.symm⟩
    rw [eb] at hh hf
    cases e : isort leP ((encK a, kP a) :: ks.map fun x => (encK x, kP x)) with
    | nil => rw [e] at hh; cases hh
    | cons q r =>
      rw [e] at hh
      have hh : q = (encK b, kP b) := Option.some.inj hh
      rw [hh]
      refine ⟨b, r.map (·.1), rfl, hb, fun x hx => ?_⟩
      rcases List.mem_cons.mp hx with rfl | hx
      · exact hf.2 (encK x, kP x) (.inl rfl)
      · exact hf.2 (encK x, kP x) (.inr (List.mem_map.mpr ⟨x, hx, rfl⟩))
theorem sortK_nil : sortK [] = [] := rfl
theorem encK_py (S : Sto) (n : Nat) (a : Ky) : toPy S (n + 3) (encK a) = some (kP a) := by
  show (([D.int a.1, encI a.2] : List D).mapM (toPy S (n + 2))).map PyData.tuple = _
  have h : toPy S (n + 2) (encI a.2) = some (.tuple (a.2.map .int)) := by
    show ((a.2.map D.int).mapM (toPy S (n + 1))).map PyData.tuple = _
    rw [mapM_ints S n]
    rfl
  rw [List.mapM_cons, List.mapM_cons, List.mapM_nil, h]
  rfl
theorem encKs_py (S : Sto) (n : Nat) : ∀ ks : List Ky, (ks.map encK).mapM (toPy S (n + 3)) = some (ks.map kP)
  | [] => rfl
  | a :: ks => by
    rw [List.map_cons, List.mapM_cons, encKs_py S n ks, encK_py]
    rfl
section
variable {S : Sto} {E : Nat → Sto → Prop} {σ : En} {Q : D → Sto → Prop}
theorem sortedK_wp (ks : List Ky) : wp (sortedA false [.lst (ks.map encK)]) S Q E = Q (.lst (sortK ks)) S := by
  refine wp_eq ?_
  have hp : pysD S (ks.map encK) = some (ks.map kP) := by
    unfold pysD
    first
      | exact encKs_py S 9 ks
      | exact encKs_py S 8 ks
      | exact encKs_py S 7 ks
  show sortedC false [.lst (ks.map encK)] S = _
  unfold sortedC
  show (match pysD S (ks.map encK) with
    | some ps => if (alikeC ps && sortableC ps) = true then (if false = true then newL (sortP ((ks.map encK).zip ps)) S else Fd.R.ok (.lst (sortP ((ks.map encK).zip ps))) S) else Fd.R.stk
    | none => Fd.R.stk) = _
  rw [hp]
  have ha : alikeC (ks.map kP) = true := by
    unfold alikeC
    rw [List.all_eq_true]
    intro a ha
    rw [List.all_eq_true]
    intro b hb
    obtain ⟨p, _, rfl⟩ := List.mem_map.mp ha
    obtain ⟨q, _, rfl⟩ := List.mem_map.mp hb
    exact alike_kP p q
  have hs : sortableC (ks.map kP) = true := by
    unfold sortableC
    rw [Bool.or_eq_true]
    refine .inl ?_
    rw [List.all_eq_true]
    intro a ha
    obtain ⟨p, _, rfl⟩ := List.mem_map.mp ha
    rfl
  simp only [ha, hs, Bool.and_self, if_true, Bool.false_eq_true, if_false]
  rfl
theorem ltK_wp (a b : Ky) : wp (ltA (encK a) (encK b)) S Q E = Q (.bl (PySem.W.dataLt (kP a) (kP b))) S := by
  refine wp_eq ?_
  show (match py S (encK a), py S (encK b) with
    | some a, some b => if ltP a b = true then Fd.R.ok (D.bl (PySem.W.dataLt a b)) S else .stk
    | _, _ => .stk) = _
  have h1 : py S (encK a) = some (kP a) := encK_py S 9 a
  have h2 : py S (encK b) = some (kP b) := encK_py S 9 b
  rw [h1, h2]
  show (if ltP (kP a) (kP b) = true then _ else _) = _
  rw [if_pos]
  unfold ltP
  rw [alike_kP]
  rfl
theorem kP_refl (a : Ky) : PyData.eqv (kP a) (kP a) = true := by
  refine eqvT_refl fun p hp => ?_
  rcases List.mem_cons.mp hp with rfl | hp
  · rw [eqv_int]; simp
  rcases List.mem_cons.mp hp with rfl | hp
  · refine eqvT_refl fun q hq => ?_
    obtain ⟨i, _, rfl⟩ := List.mem_map.mp hq
    rw [eqv_int]; simp
  · cases hp
theorem neK_wp (a : Ky) : wp (neA (encK a) (encK a)) S Q E = Q (.bl false) S := by
  refine wp_eq ?_
  show (match py S (encK a), py S (encK a) with
    | some a, some b => Fd.R.ok (D.bl (!PyData.eqv a b)) S
    | _, _ => .stk) = _
  have h1 : py S (encK a) = some (kP a) := encK_py S 9 a
  rw [h1]
  show Fd.R.ok (D.bl (!PyData.eqv (kP a) (kP a))) S = _
  rw [kP_refl]
  rfl
end
end K04

set_option Elab.async false
set_option linter.all false
set_option maxRecDepth 100000
set_option maxHeartbeats 1000000
namespace K04
open PySem PySem.Spec PyProof.Rows L2 LamX Fd
/-! ### best_cuts: a stack of ways -/
def lvs : List Int → Wy → List Wy
  | [], w => [w]
  | l :: ls, w => (extW l w).flatMap (lvs ls)
def sz : Nat → Nat
  | 0 => 1
  | n + 1 => 1 + 3 * sz n
theorem lvs_ways (lens : List Int) : ∀ found : List Wy, lens.foldl (fun found len => found.flatMap (extW len)) found = found.flatMap (lvs lens) := by
  induction lens with
  | nil =>
    intro found
    show found = found.flatMap fun w => [w]
    simp
  | cons l ls ih =>
    intro found
    rw [List.foldl_cons, ih, List.flatMap_assoc]
    rfl
theorem lvs_all (bolts lens : List Int) : lvs lens ([], bolts) = waysW bolts lens := by
  unfold waysW
  rw [lvs_ways, List.flatMap_cons, List.flatMap_nil, List.append_nil]
def encB : Option Ky → D
  | none => .non
  | some b => encK b
structure Bt (bolts lens : List Int) (st : List Wy) (best : Option Ky) : Prop where
  w : ∀ w ∈ st, w.1.length ≤ lens.length ∧ w.2.length = bolts.length ∧ ∀ x ∈ w.2, 0 ≤ x
  c1 : ∀ w ∈ st, ∀ x ∈ lvs (lens.drop w.1.length) w, x ∈ waysW bolts lens
  c2 : ∀ x ∈ waysW bolts lens, (∃ w ∈ st, x ∈ lvs (lens.drop w.1.length) w) ∨ ∃ b, best = some b ∧ PySem.W.dataLt (kP (keyW x)) (kP b) = false
  c3 : ∀ b, best = some b → b ∈ (waysW bolts lens).map keyW
def msr (lens : List Int) (st : List Wy) : Nat := (st.map fun w => sz (lens.length - w.1.length)).sum
structure Sb (σ : En) (S : Sto) (bolts lens : List Int) (st : List Wy) (best : Option Ky) : Prop where
  n : σ.length = 9
  s0 : σ[0]? = some (some (.lst (bolts.map .int)))
  s1 : σ[1]? = some (some (.lst (lens.map .int)))
  s2 : σ[2]? = some (some (encB best))
  s3 : σ[3]? = some (some (.ref 0))
  o : S.objs[0]? = some (.lst (st.map encW))
  l : S.locked 0 = false
section
variable {S : Sto} {E : Nat → Sto → Prop} {σ : En} {bolts lens : List Int} {st : List Wy} {best : Option Ky}
theorem Sb.set (g : Sb σ S bolts lens st best) {i : Nat} (h : 3 < i) (v : Option D) : Sb (σ.set i v) S bolts lens st best := by
  refine ⟨by rw [List.length_set]; exact g.n, ?_, ?_, ?_, ?_, g.o, g.l⟩
  · rw [List.getElem?_set_ne (by omega)]; exact g.s0
  · rw [List.getElem?_set_ne (by omega)]; exact g.s1
  · rw [List.getElem?_set_ne (by omega)]; exact g.s2
  · rw [List.getElem?_set_ne (by omega)]; exact g.s3
theorem Sb.put (g : Sb σ S bolts lens st best) (st' : List Wy) : Sb σ (S.put 0 (.lst (st'.map encW))) bolts lens st' best :=
  ⟨g.n, g.s0, g.s1, g.s2, g.s3, put_at (lt_of_get g.o), g.l⟩
theorem Sb.upd (g : Sb σ S bolts lens st best) (b : Option Ky) : Sb (σ.set 2 (some (encB b))) S bolts lens st b := by
  refine ⟨by rw [List.length_set]; exact g.n, ?_, ?_, ?_, ?_, g.o, g.l⟩
  · rw [List.getElem?_set_ne (by omega)]; exact g.s0
  · rw [List.getElem?_set_ne (by omega)]; exact g.s1
  · rw [List.getElem?_set_self (by rw [g.n]; decide)]
  · rw [List.getElem?_set_ne (by omega)]; exact g.s3
theorem encW_py (S : Sto) (n : Nat) (w : Wy) : toPy S (n + 3) (encW w) = some (.tuple [.tuple (w.1.map .int), .tuple (w.2.map .int)]) := by
  have h : ∀ xs : List Int, toPy S (n + 2) (encI xs) = some (.tuple (xs.map .int)) := fun xs => by
    show ((xs.map D.int).mapM (toPy S (n + 1))).map PyData.tuple = _
    rw [mapM_ints S n]
    rfl
  show (([encI w.1, encI w.2] : List D).mapM (toPy S (n + 2))).map PyData.tuple = _
  rw [List.mapM_cons, List.mapM_cons, List.mapM_nil, h, h]
  rfl
theorem encWs_py (S : Sto) (n : Nat) : ∀ ks : List Wy, ∃ ps, (ks.map encW).mapM (toPy S (n + 3)) = some ps ∧ ps.length = ks.length
  | [] => ⟨[], rfl, rfl⟩
  | a :: ks => by
    obtain ⟨ps, h1, h2⟩ := encWs_py S n ks
    refine ⟨.tuple [.tuple (a.1.map .int), .tuple (a.2.map .int)] :: ps, ?_, by rw [List.length_cons, List.length_cons, h2]⟩
    rw [List.map_cons, List.mapM_cons, h1, encW_py]
    rfl
theorem neStk_wp {Q : D → Sto → Prop} {l : Nat} (h : S.objs[l]? = some (.lst (st.map encW))) : wp (neA (.ref l) (.lst [])) S Q E = Q (.bl (!st.isEmpty)) S := by
  refine wp_eq ?_
  obtain ⟨ps, h1, h2⟩ := encWs_py S 8 st
  have hp : py S (.ref l) = some (.list ps) := by
    show (match S.objs[l]? with
      | some (.lst ds) => (ds.mapM (toPy S 11)).map PyData.list
      | _ => none) = _
    rw [h]
    show ((st.map encW).mapM (toPy S 11)).map PyData.list = _
    rw [h1]
    rfl
  have hd : dctD S (.ref l) = none := by unfold dctD; simp only [h]
  have hn : py S (.lst []) = some (.list []) := rfl
  unfold neA alt2
  simp only [hd, Option.isSome_none, Bool.false_eq_true, if_false]
  unfold neD
  rw [hp, hn]
  cases st with
  | nil =>
    rw [List.eq_nil_of_length_eq_zero h2]
    simp [PyData.eqv, PyData.eqvAll]
  | cons w st =>
    cases ps with
    | nil => cases h2
    | cons p ps => simp [PyData.eqv, PyData.eqvAll]
theorem pop_wp {Q : D → Sto → Prop} {l : Nat} {ds : List D} {d : D} (h : S.objs[l]? = some (.lst (ds ++ [d]))) (hl : S.locked l = false) : wp (popM (.ref l) []) S Q E = Q d (S.put l (.lst ds)) := by
  refine wp_eq ?_
  unfold popM ownL
  simp only [hl, h, Bool.false_eq_true, if_false]
  have e : (ds ++ [d])[(ds ++ [d]).length - 1]? = some d := by
    rw [List.length_append]
    simp
  simp only [e, List.dropLast_concat]
theorem lost_ok {w : Wy} {ix a b : Nat} (hn : ix < σ.length) (ha : a ≠ ix) (hb : b ≠ ix) (h1 : σ[a]? = some (some (encI w.1))) (h2 : σ[b]? = some (some (encI w.2))) (hz : w.2.length ≤ 3) (hp : ∀ x ∈ w.2, 0 ≤ x) :
    genE (rng1 (callE (consA (getV b) nilA) lenC)) [ix] (nameG ix) (andT (tst1 (bin2 inO (getV ix) (getV a))) (tst1 (bin2 ltA (bin2 itemO (getV b) (getV ix)) (cst (.int 10))))) (bin2 itemO (getV b) (getV ix)) chkSum finSum σ S = .ok (.int (lostW w).sum) S := by
  have hit : rng1 (callE (consA (getV b) nilA) lenC) σ S = .ok ((List.range w.2.length).map fun (i : Nat) => D.int (i : Int)) S := by
    refine rng_wp (run_of fun Q E hq => ?_) (by omega)
    simp only [callE, consA, nilA, getV, h2, wp_bind, wp_pure, lenT_wp]
    exact hq
  have ef : (List.range w.2.length).filterMap (fun (k : Nat) => if (decide ((k : Int) ∈ w.1) && decide (w.2.getD k 0 < 10)) = true then some (w.2.getD k 0) else none) = lostW w := filterMap_if _ _ _
  have hpos : ∀ k ∈ List.range w.2.length, 0 ≤ w.2.getD k 0 := fun k hk => by
    have hk := List.mem_range.mp hk
    rw [List.getD_eq_getElem?_getD, List.getElem?_eq_getElem hk]
    exact hp _ (List.getElem_mem hk)
  have hs : (lostW w).sum < 2 ^ 63 := by
    have h1 := sum_le 10 (lostW w) fun x hx => by
      unfold lostW at hx
      obtain ⟨k, hk, rfl⟩ := List.mem_map.mp hx
      have := (List.mem_filter.mp hk).2
      rw [Bool.and_eq_true, decide_eq_true_eq, decide_eq_true_eq] at this
      omega
    have h2 : (lostW w).length ≤ 3 := by
      unfold lostW
      rw [List.length_map]
      exact Nat.le_trans (List.length_filter_le _ _) (by rw [List.length_range]; exact hz)
    omega
  rw [genS_ok (fun (i : Nat) => D.int (i : Int)) (List.range w.2.length) (fun (k : Nat) => if (decide ((k : Int) ∈ w.1) && decide (w.2.getD k 0 < 10)) = true then some (w.2.getD k 0) else none) hit (fun k hk => ?_) (fun k hk i hi => ?_) (by rw [ef]; exact hs), ef]
  · rw [lost_bod hn ha hb h1 h2 (List.mem_range.mp hk)]
    by_cases c : (decide ((k : Int) ∈ w.1) && decide (w.2.getD k 0 < 10)) = true
    · rw [if_pos c, if_pos c]; rfl
    · rw [if_neg c, if_neg c]; rfl
  · by_cases c : (decide ((k : Int) ∈ w.1) && decide (w.2.getD k 0 < 10)) = true
    · rw [if_pos c] at hi
      cases hi
      exact hpos k hk
    · rw [if_neg c] at hi
      cases hi
/-- one place: another way, if the bolt has it -/
theorem bestB0_wp {Q : Fl → Sto → Prop} {w : Wy} {len : Int} {k : Nat} (g : Sb σ S bolts lens st best) (h4 : σ[4]? = some (some (encI w.1))) (h5 : σ[5]? = some (some (encI w.2))) (h7 : σ[7]? = some (some (.int len))) (h8 : σ[8]? = some (some (.int (k : Int)))) (hk : k < w.2.length) (z1 : w.1.length ≤ 1000) (z2 : w.2.length ≤ 1000) (hz : st.length < 100000)
    (q : ∀ S', Sb σ S' bolts lens (st ++ if decide (len ≤ w.2.getD k 0) = true then [kidW len w k] else []) best → Q (.nx σ) S') : wp (L_bestCuts_b0 σ) S Q E := by
  unfold L_bestCuts_b0
  have kd : ∀ {Q : D → Sto → Prop} {E : Nat → Sto → Prop}, wp (tupV (consA (bin2 addA (getV 4) (tupV (consA (getV 8) nilA))) (consA (bin2 addA (bin2 addA (sliceE (getV 5) none (some (getV 8))) (tupV (consA (bin2 subI (bin2 itemO (getV 5) (getV 8)) (getV 7)) nilA))) (sliceE (getV 5) (some (bin2 addA (getV 8) (cst (.int 1)))) none)) nilA)) σ) S Q E = Q (encW (kidW len w k)) S := fun {Q E} => by
    refine kid_wp ?_ ?_ ?_ ?_ hk z1 z2
    · unfold getV; rw [h4]; rfl
    · unfold getV; rw [h5]; rfl
    · unfold getV; rw [h8]; rfl
    · unfold getV; rw [h7]; rfl
  simp only [ifS, tst1, bin2, getV, wp_bind, wp_pure, wp_ite, h5, h7, h8, ixT_wp hk, wp_geI, wp_asB, skip]
  by_cases c : decide (len ≤ w.2.getD k 0) = true
  · rw [if_pos c] at q ⊢
    have hz' : (st.map encW).length < sizeLine := by rw [List.length_map]; exact Nat.lt_trans hz (by decide)
    simp only [exprS, bmE, consA, nilA, getV, wp_bind, wp_pure, g.s3, chkL_wp g.o g.l, kd, app_wp g.o g.l hz']
    have e : st.map encW ++ [encW (kidW len w k)] = (st ++ [kidW len w k]).map encW := by rw [List.map_append]; rfl
    rw [e]
    exact q _ (g.put _)
  · rw [if_neg c] at q ⊢
    rw [List.append_nil] at q
    exact q S g
end
theorem sz_pos : ∀ n, 0 < sz n
  | 0 => Nat.one_pos
  | n + 1 => by show 0 < 1 + _; omega
theorem msr_app (lens : List Int) (a b : List Wy) : msr lens (a ++ b) = msr lens a + msr lens b := by
  unfold msr
  rw [List.map_append, List.sum_append]
theorem msr_le {lens : List Int} {m : Nat} : ∀ l : List Wy, (∀ w ∈ l, sz (lens.length - w.1.length) = m) → msr lens l = m * l.length
  | [], _ => rfl
  | w :: l, h => by
    have h1 := msr_le l fun v hv => h v (List.mem_cons_of_mem _ hv)
    unfold msr at h1 ⊢
    rw [List.map_cons, List.sum_cons, h1, h w List.mem_cons_self, List.length_cons, Nat.mul_succ, Nat.add_comm]
theorem Bt.leaf {bolts lens : List Int} {st : List Wy} {best : Option Ky} {w : Wy} (B : Bt bolts lens (st ++ [w]) best) (hw : w.1.length = lens.length) (b' : Ky)
    (hb : b' = keyW w ∨ best = some b') (h1 : PySem.W.dataLt (kP (keyW w)) (kP b') = false) (h2 : ∀ b, best = some b → ∀ x, PySem.W.dataLt (kP x) (kP b) = false → PySem.W.dataLt (kP x) (kP b') = false) : Bt bolts lens st (some b') := by
  have hd : lens.drop w.1.length = [] := by rw [hw, List.drop_length]
  have hwm : w ∈ st ++ [w] := List.mem_append_right _ (List.mem_singleton.mpr rfl)
  refine ⟨fun v hv => B.w v (List.mem_append_left _ hv), fun v hv => B.c1 v (List.mem_append_left _ hv), fun x hx => ?_, fun b e => ?_⟩
  · rcases B.c2 x hx with ⟨v, hv, hx2⟩ | ⟨b, e, h⟩
    · rcases List.mem_append.mp hv with hv | hv
      · exact .inl ⟨v, hv, hx2⟩
      · rw [List.mem_singleton] at hv
        subst hv
        rw [hd] at hx2
        have : x = v := List.mem_singleton.mp hx2
        subst this
        exact .inr ⟨b', rfl, h1⟩
    · exact .inr ⟨b', rfl, h2 b e _ h⟩
  · cases e
    rcases hb with hb | hb
    · rw [hb]
      exact List.mem_map.mpr ⟨w, B.c1 w hwm w (by rw [hd]; exact List.mem_singleton.mpr rfl), rfl⟩
    · exact B.c3 _ hb
theorem Bt.node {bolts lens : List Int} {st : List Wy} {best : Option Ky} {w : Wy} {len : Int} (B : Bt bolts lens (st ++ [w]) best) (hw : w.1.length < lens.length) (hl : lens[w.1.length]? = some len) : Bt bolts lens (st ++ extW len w) best := by
  have hwm : w ∈ st ++ [w] := List.mem_append_right _ (List.mem_singleton.mpr rfl)
  have hd : lens.drop w.1.length = len :: lens.drop (w.1.length + 1) := by
    rw [List.drop_eq_getElem_cons hw]
    rw [List.getElem?_eq_getElem hw] at hl
    rw [Option.some.inj hl]
  have hlv : lvs (lens.drop w.1.length) w = (extW len w).flatMap (lvs (lens.drop (w.1.length + 1))) := by rw [hd]; rfl
  have hk : ∀ v ∈ extW len w, v.1.length = w.1.length + 1 ∧ v.2.length = w.2.length := fun v hv => extW_mem hv
  refine ⟨fun v hv => ?_, fun v hv x hx => ?_, fun x hx => ?_, B.c3⟩
  · rcases List.mem_append.mp hv with hv | hv
    · exact B.w v (List.mem_append_left _ hv)
    · obtain ⟨h1, h2⟩ := hk v hv
      obtain ⟨_, h4, h5⟩ := B.w w hwm
      refine ⟨by omega, by omega, fun x hx => ?_⟩
      unfold extW at hv
      obtain ⟨k, hk, rfl⟩ := List.mem_map.mp hv
      have hc := of_decide_eq_true (List.mem_filter.mp hk).2
      unfold kidW at hx
      rcases List.mem_or_eq_of_mem_set hx with hx | hx
      · exact h5 x hx
      · omega
  · rcases List.mem_append.mp hv with hv | hv
    · exact B.c1 v (List.mem_append_left _ hv) x hx
    · refine B.c1 w hwm x ?_
      rw [hlv]
      rw [(hk v hv).1] at hx
      exact List.mem_flatMap.mpr ⟨v, hv, hx⟩
  · rcases B.c2 x hx with ⟨v, hv, hx2⟩ | h
    · rcases List.mem_append.mp hv with hv | hv
      · exact .inl ⟨v, List.mem_append_left _ hv, hx2⟩
      · rw [List.mem_singleton] at hv
        subst hv
        rw [hlv] at hx2
        obtain ⟨u, hu, hx3⟩ := List.mem_flatMap.mp hx2
        exact .inl ⟨u, List.mem_append_right _ hu, by rw [(hk u hu).1]; exact hx3⟩
    · exact .inr h
end K04

set_option Elab.async false
set_option linter.all false
set_option maxRecDepth 100000
set_option maxHeartbeats 1000000
namespace K04
open PySem PySem.Spec PyProof.Rows L2 LamX Fd
/-! ### best_cuts: the loop -/
theorem len_msr (lens : List Int) : ∀ st : List Wy, st.length ≤ msr lens st
  | [] => Nat.le_refl _
  | w :: st => by
    have h := len_msr lens st
    have h2 := sz_pos (lens.length - w.1.length)
    unfold msr at h ⊢
    rw [List.length_cons, List.map_cons, List.sum_cons]
    omega
section
variable {S : Sto} {E : Nat → Sto → Prop} {σ : En} {bolts lens : List Int} {best : Option Ky}
theorem ixLI_wp {Q : D → Sto → Prop} {xs : List Int} {k : Nat} {x : Int} (h : xs[k]? = some x) : wp (itemO (.lst (xs.map .int)) (.int (k : Int))) S Q E = Q (.int x) S := by
  refine wp_eq ?_
  have hk := lt_of_get h
  show (match atI (xs.map D.int) (k : Int) with
    | some d => Fd.R.ok d S
    | none => .stk) = _
  have e : atI (xs.map D.int) (k : Int) = some (.int x) := by
    have h1 : ixN (xs.map D.int).length (k : Int) = some k := by
      unfold ixN
      rw [List.length_map]
      first
        | (rw [if_pos (by omega)]; simp; done)
        | (simp; omega)
    unfold atI
    rw [h1]
    show (xs.map D.int)[k]? = _
    rw [List.getElem?_map, h]
    rfl
  rw [e]
theorem irr (a : PyData) : PySem.W.dataLt a a = false := PyProof.Rows.lex_irrefl (O := PyProof.Rows.itemOrd) _
theorem ltr (a b c : PyData) (h1 : PySem.W.dataLt a b = true) (h2 : PySem.W.dataLt b c = true) : PySem.W.dataLt a c = true := PyProof.Rows.lex_trans (O := PyProof.Rows.itemOrd) _ _ _ h1 h2
theorem bestB1_wp {st : List Wy} {w : Wy} (g : Sb σ S bolts lens (st ++ [w]) best) (B : Bt bolts lens (st ++ [w]) best) (hb : bolts.length ≤ 3) (hl : lens.length ≤ 5) (hm : msr lens (st ++ [w]) ≤ 1000) :
    wp (L_bestCuts_b1 σ) S (fun fl S2 => ∃ σ' st2 best2, (fl = .nx σ' ∨ fl = .ct σ') ∧ Sb σ' S2 bolts lens st2 best2 ∧ Bt bolts lens st2 best2 ∧ msr lens st2 < msr lens (st ++ [w])) (fun _ _ => False) := by
  have hwm : w ∈ st ++ [w] := List.mem_append_right _ (List.mem_singleton.mpr rfl)
  obtain ⟨w1, w2, w3⟩ := B.w w hwm
  have ho : S.objs[0]? = some (.lst (st.map encW ++ [encW w])) := by rw [g.o, List.map_append]; rfl
  have t2 : tupD (encW w) = some [encI w.1, encI w.2] := rfl
  have hst : st.length ≤ 1000 := by
    have := len_msr lens (st ++ [w])
    rw [List.length_append] at this
    omega
  unfold L_bestCuts_b1
  simp only [seqS, asgS, bmE, getV, wp_bind, wp_pure, g.s3, chkL_wp g.o g.l, nilA, pop_wp ho g.l, tupG, t2, consG, nilG, nameG, wp_ite, List.length_cons, List.length_nil, if_true, show ((0 : Nat) + 1 + 1 = 2) = True from eq_true rfl]
  have g2 := ((g.put st).set (i := 4) (by decide) (some (encI w.1))).set (i := 5) (by decide) (some (encI w.2))
  have k4 : ((σ.set 4 (some (encI w.1))).set 5 (some (encI w.2)))[4]? = some (some (encI w.1)) := by rw [List.getElem?_set_ne (by decide), List.getElem?_set_self (by rw [g.n]; decide)]
  have k5 : ((σ.set 4 (some (encI w.1))).set 5 (some (encI w.2)))[5]? = some (some (encI w.2)) := by rw [List.getElem?_set_self (by rw [List.length_set, g.n]; decide)]
  generalize (σ.set 4 (some (encI w.1))).set 5 (some (encI w.2)) = σ1 at g2 k4 k5 ⊢
  generalize S.put 0 (.lst (st.map encW)) = S1 at g2 ⊢
  simp only [ifS, tst1, bin2, callE, consA, nilA, getV, wp_bind, wp_pure, wp_ite, k4, g2.s1, lenT_wp, lenLst_wp, List.length_map, wp_eqI, wp_asB, decide_eq_true_eq]
  by_cases hw : (w.1.length : Int) = (lens.length : Int)
  · rw [if_pos hw]
    have hw' : w.1.length = lens.length := by omega
    have hlt : msr lens st < msr lens (st ++ [w]) := by
      rw [msr_app]
      have := sz_pos (lens.length - w.1.length)
      unfold msr
      simp only [List.map_cons, List.map_nil, List.sum_cons, List.sum_nil]
      omega
    have hlo := lost_ok (S := S1) (σ := σ1) (w := w) (ix := 8) (a := 4) (b := 5) (by rw [g2.n]; decide) (by decide) (by decide) k4 k5 (by omega) w3
    simp only [seqS, setS, wp_bind, wp_eq hlo, wp_pure]
    have g3 := g2.set (i := 6) (by decide) (some (.int (lostW w).sum))
    have j4 : (σ1.set 6 (some (.int (lostW w).sum)))[4]? = some (some (encI w.1)) := by rw [List.getElem?_set_ne (by decide)]; exact k4
    have j6 : (σ1.set 6 (some (.int (lostW w).sum)))[6]? = some (some (.int (lostW w).sum)) := by rw [List.getElem?_set_self (by rw [g2.n]; decide)]
    generalize σ1.set 6 (some (.int (lostW w).sum)) = σ2 at g3 j4 j6 ⊢
    have hk : ∀ {Q : D → Sto → Prop} {E : Nat → Sto → Prop}, wp (tupV (consA (getV 6) (consA (getV 4) nilA)) σ2) S1 Q E = Q (encK (keyW w)) S1 := fun {Q E} => by
      rw [tup2_wp]
      simp only [getV, j4, j6, wp_pure]
      rfl
    simp only [ifV, orT, tst1, bin2, cst, wp_bind, wp_pure, wp_ite, hk]
    simp only [getV, g3.s2, wp_pure]
    cases best with
    | none =>
      have hn : ∀ {Q : D → Sto → Prop} {E : Nat → Sto → Prop}, wp (isN (encB none) .non) S1 Q E = Q (.bl true) S1 := fun {Q E} => wp_eq rfl
      simp only [hn, wp_asB, if_true, hk]
      exact ⟨_, st, some (keyW w), .inr rfl, g3.upd (some (keyW w)), B.leaf hw' (keyW w) (.inl rfl) (irr _) (fun b e => by cases e), hlt⟩
    | some b =>
      have hn : ∀ {Q : D → Sto → Prop} {E : Nat → Sto → Prop}, wp (isN (encB (some b)) .non) S1 Q E = Q (.bl false) S1 := fun {Q E} => wp_eq rfl
      have hlt2 : ∀ {Q : D → Sto → Prop} {E : Nat → Sto → Prop}, wp (ltA (encK (keyW w)) (encB (some b))) S1 Q E = Q (.bl (PySem.W.dataLt (kP (keyW w)) (kP b))) S1 := fun {Q E} => ltK_wp _ _
      simp only [hn, wp_asB, Bool.false_eq_true, if_false, hk, hlt2]
      by_cases hc : PySem.W.dataLt (kP (keyW w)) (kP b) = true
      · rw [if_pos hc]
        refine ⟨_, st, some (keyW w), .inr rfl, g3.upd (some (keyW w)), B.leaf hw' (keyW w) (.inl rfl) (irr _) (fun b' e x hx => ?_), hlt⟩
        cases e
        cases e2 : PySem.W.dataLt (kP x) (kP (keyW w)) with
        | false => rfl
        | true => rw [ltr _ _ _ e2 hc] at hx; cases hx
      · rw [if_neg hc]
        exact ⟨_, st, some b, .inr rfl, g3.upd (some b), B.leaf hw' b (.inr rfl) (by simpa using hc) (fun b' e x hx => by cases e; exact hx), hlt⟩
  · rw [if_neg hw]
    have hw' : w.1.length < lens.length := by omega
    obtain ⟨len, hlen⟩ : ∃ len, lens[w.1.length]? = some len := ⟨_, List.getElem?_eq_getElem hw'⟩
    simp only [skip, seqS, setS, wp_bind, bin2, callE, consA, nilA, getV, wp_pure, g2.s1, k4, lenT_wp, ixLI_wp hlen]
    have g3 := g2.set (i := 7) (by decide) (some (.int len))
    have j4 : (σ1.set 7 (some (.int len)))[4]? = some (some (encI w.1)) := by rw [List.getElem?_set_ne (by decide)]; exact k4
    have j5 : (σ1.set 7 (some (.int len)))[5]? = some (some (encI w.2)) := by rw [List.getElem?_set_ne (by decide)]; exact k5
    have j7 : (σ1.set 7 (some (.int len)))[7]? = some (some (.int len)) := by rw [List.getElem?_set_self (by rw [g2.n]; decide)]
    generalize σ1.set 7 (some (.int len)) = σ2 at g3 j4 j5 j7 ⊢
    have hr : rng1 (callE (consA (getV 5) nilA) lenC) σ2 S1 = .ok ((List.range w.2.length).map fun (i : Nat) => D.int (i : Int)) S1 := by
      refine rng_wp (run_of fun Q E hq => ?_) (by omega)
      simp only [callE, consA, nilA, getV, j5, wp_bind, wp_pure, lenT_wp]
      exact hq
    unfold forS
    rw [wp_bind, wp_eq hr]
    have hch : ∀ todo : List Nat, (todo.filter fun k => decide (len ≤ w.2.getD k 0)).length ≤ todo.length := fun todo => List.length_filter_le _ _
    refine wp_loop (fun ds σ' S' => ∃ done todo, List.range w.2.length = done ++ todo ∧ ds = todo.map (fun (i : Nat) => D.int (i : Int)) ∧ Sb σ' S' bolts lens (st ++ (done.filter fun k => decide (len ≤ w.2.getD k 0)).map (kidW len w)) best ∧ σ'[4]? = some (some (encI w.1)) ∧ σ'[5]? = some (some (encI w.2)) ∧ σ'[7]? = some (some (.int len))) (fun d ds σ' S' h => ?_) (fun σ' S' h => ?_) _ _ _ ⟨[], List.range w.2.length, rfl, rfl, by simpa using g3, j4, j5, j7⟩
    · obtain ⟨done, todo, hf, hd, g4, m4, m5, m7⟩ := h
      cases todo with
      | nil => cases hd
      | cons k todo =>
        rw [List.map_cons] at hd
        injection hd with hd1 hd2
        subst hd1
        have hk : k < w.2.length := List.mem_range.mp (by rw [hf]; exact List.mem_append_right _ List.mem_cons_self)
        have hdl : done.length ≤ 3 := by
          have := congrArg List.length hf
          rw [List.length_range, List.length_append] at this
          omega
        simp only [nameG, wp_pure]
        refine bestB0_wp (w := w) (len := len) (k := k) (g4.set (i := 8) (by decide) (some (.int (k : Int)))) ?_ ?_ ?_ ?_ hk (by omega) (by omega) ?_ fun S2 g5 => ?_
        · rw [List.getElem?_set_ne (by decide)]; exact m4
        · rw [List.getElem?_set_ne (by decide)]; exact m5
        · rw [List.getElem?_set_ne (by decide)]; exact m7
        · rw [List.getElem?_set_self (by rw [g4.n]; decide)]
        · rw [List.length_append, List.length_map]
          have := hch done
          omega
        · refine ⟨done ++ [k], todo, by rw [hf, List.append_assoc]; rfl, hd2, ?_, ?_, ?_, ?_⟩
          · rw [List.filter_append, List.map_append, ← List.append_assoc]
            have e : ([k].filter fun k => decide (len ≤ w.2.getD k 0)).map (kidW len w) = if decide (len ≤ w.2.getD k 0) = true then [kidW len w k] else [] := by
              rw [List.filter_cons]
              by_cases c : decide (len ≤ w.2.getD k 0) = true
              · rw [if_pos c, if_pos c]; rfl
              · rw [if_neg c, if_neg c]; rfl
            rw [e]
            exact g5
          · rw [List.getElem?_set_ne (by decide)]; exact m4
          · rw [List.getElem?_set_ne (by decide)]; exact m5
          · rw [List.getElem?_set_ne (by decide)]; exact m7
    · obtain ⟨done, todo, hf, hd, g4, m4, m5, m7⟩ := h
      have hd : todo = [] := List.map_eq_nil_iff.mp hd.symm
      subst hd
      rw [List.append_nil] at hf
      subst hf
      refine ⟨σ', st ++ extW len w, best, .inl rfl, g4, B.node hw' hlen, ?_⟩
      rw [msr_app, msr_app]
      have h1 := msr_le (lens := lens) (m := sz (lens.length - (w.1.length + 1))) (extW len w) fun v hv => by rw [(extW_mem hv).1]
      rw [h1]
      have h2 := extW_len (len := len) (w := w)
      have h3 : lens.length - w.1.length = (lens.length - (w.1.length + 1)) + 1 := by omega
      unfold msr
      simp only [List.map_cons, List.map_nil, List.sum_cons, List.sum_nil]
      rw [h3]
      show _ + sz _ * _ < _ + (1 + 3 * sz _ + 0)
      have h4 : sz (lens.length - (w.1.length + 1)) * (extW len w).length ≤ sz (lens.length - (w.1.length + 1)) * 3 := Nat.mul_le_mul_left _ (by omega)
      omega
theorem any_bad {ns : List Int} {i j : Nat} (hij : i ≠ j) (hn : j < σ.length) (h : σ[i]? = some (some (.lst (ns.map .int)))) (hp : ∀ x ∈ ns, 1 ≤ x) : genE (itSeq (getV i)) [j] (nameG j) yesT (bin2 ltA (getV j) (cst (.int 1))) (chkB true) (finB false) σ S = .ok (.bl false) S := run_of fun Q E hq => by
  simp only [genE, itSeq, getV, h, wp_bind, wp_pure, itemsL_wp]
  refine wp_genL (fun ys ds S' => S' = S ∧ ∃ todo : List Int, ds = todo.map .int ∧ ∀ x ∈ todo, x ∈ ns) (fun ys d ds S' h => ?_) (fun ys S' h => ?_) _ _ _ ⟨rfl, ns, rfl, fun _ h => h⟩
  · obtain ⟨rfl, todo, hd, ht⟩ := h
    cases todo with
    | nil => cases hd
    | cons x todo =>
      rw [List.map_cons] at hd
      injection hd with hd1 hd2
      subst hd1
      have hx := hp x (ht x List.mem_cons_self)
      have hc : decide (x < 1) = false := decide_eq_false (by omega)
      simp only [bodG, nameG, yesT, wipeE, bin2, getV, cst, wp_bind, wp_pure, wp_ite, if_true, List.set_set, List.getElem?_set_self hn, wp_ltI, hc]
      exact ⟨trivial, todo, hd2, fun y hy => ht y (List.mem_cons_of_mem _ hy)⟩
  · obtain ⟨rfl, _⟩ := h
    exact hq
theorem best_ok (hb : bolts.length ≤ 3) (hl : lens.length ≤ 5) (h1 : ∀ x ∈ lens, 1 ≤ x) (h0 : ∀ x ∈ bolts, 0 ≤ x) :
    wp (bodyD 9 dn_bestCuts [.lst (bolts.map .int), .lst (lens.map .int)]) Sto.e (fun d _ => ∃ b, d = encK b ∧ Least b ((waysW bolts lens).map keyW)) (fun c _ => c = 0 ∧ waysW bolts lens = []) := by
  have en : ∀ {S : Sto}, genE (itSeq (getV 1)) [7] (nameG 7) yesT (bin2 ltA (getV 7) (cst (.int 1))) (chkB true) (finB false) [some (.lst (bolts.map .int)), some (.lst (lens.map .int)), none, none, none, none, none, none, none] S = .ok (.bl false) S := fun {S} => any_bad (σ := [some (.lst (bolts.map .int)), some (.lst (lens.map .int)), none, none, none, none, none, none, none]) (i := 1) (j := 7) (by decide) (show 7 < 9 by decide) rfl h1
  have e1 : ([some (.lst (bolts.map .int)), some (.lst (lens.map .int)), none, none, none, none, none, none, none] : En)[1]? = some (some (.lst (lens.map .int))) := rfl
  unfold bodyD dn_bestCuts
  rw [show startD 9 [D.lst (bolts.map .int), .lst (lens.map .int)] = [some (.lst (bolts.map .int)), some (.lst (lens.map .int)), none, none, none, none, none, none, none] from rfl]
  have n1 : ¬ (7 : Int) < (lens.length : Int) := by omega
  have n2 : ¬ (4 : Int) < (bolts.length : Int) := by omega
  simp only [seqS, ifS, orT, tst1, bin2, callE, consA, nilA, getV, cst, wp_bind, wp_pure, wp_ite, List.getElem?_cons_zero, List.getElem?_cons_succ, lenLst_wp, List.length_map, wp_gtI, wp_asB, decide_eq_true_eq, n1, n2, if_false, lockL_wp e1, wp_eq en, Bool.false_eq_true, skip]
  simp only [parS, consA, nilA, cst, lstO, tup2_wp, tup0_wp, callE, getV, wp_bind, wp_pure, wp_ite, List.getElem?_cons_zero, tupLst_wp, List.length_cons, List.length_nil, show (0 + 1 ≤ sizeLine) = True from eq_true (by decide), if_true, newL_wp, List.set_cons_zero, List.set_cons_succ]
  have g0 : Sb [some (.lst (bolts.map .int)), some (.lst (lens.map .int)), some .non, some (.ref 0), none, none, none, none, none] (Sto.e.push (.lst [encW ([], bolts)])) bolts lens [([], bolts)] none := ⟨rfl, rfl, rfl, rfl, rfl, rfl, rfl⟩
  have B0 : Bt bolts lens [([], bolts)] none := by
    refine ⟨fun w hw => ?_, fun w hw x hx => ?_, fun x hx => .inl ⟨([], bolts), List.mem_singleton.mpr rfl, ?_⟩, fun b e => by cases e⟩
    · rw [List.mem_singleton] at hw
      subst hw
      exact ⟨Nat.zero_le _, rfl, h0⟩
    · rw [List.mem_singleton] at hw
      subst hw
      have hx : x ∈ lvs lens ([], bolts) := hx
      rw [lvs_all] at hx
      exact hx
    · show x ∈ lvs lens ([], bolts)
      rw [lvs_all]
      exact hx
  have m0 : msr lens [([], bolts)] ≤ 364 := by
    show sz (lens.length - 0) + 0 ≤ 364
    have : lens.length = 0 ∨ lens.length = 1 ∨ lens.length = 2 ∨ lens.length = 3 ∨ lens.length = 4 ∨ lens.length = 5 := by omega
    rcases this with e | e | e | e | e | e <;> rw [e] <;> decide
  show wp (whileM L_bestCuts_t0 L_bestCuts_b1 200000 [some (.lst (bolts.map .int)), some (.lst (lens.map .int)), some .non, some (.ref 0), none, none, none, none, none]) (Sto.e.push (.lst [encW ([], bolts)])) _ _
  generalize Sto.e.push (.lst [encW ([], bolts)]) = S0 at g0 ⊢
  generalize ([some (.lst (bolts.map .int)), some (.lst (lens.map .int)), some .non, some (.ref 0), none, none, none, none, none] : En) = σ0 at g0 ⊢
  refine wp_while (fun m σ S => m ≤ 364 ∧ ∃ st best, m = msr lens st ∧ Sb σ S bolts lens st best ∧ Bt bolts lens st best) (fun m σ S h => ?_) 200000 (msr lens [([], bolts)]) σ0 S0 (by omega) ⟨m0, _, _, rfl, g0, B0⟩
  obtain ⟨hm, st, best, rfl, g, B⟩ := h
  unfold L_bestCuts_t0
  simp only [tst1, bin2, getV, wp_bind, wp_pure, g.s3, lst0_wp, neStk_wp g.o, wp_asB]
  rcases List.eq_nil_or_concat st with e | ⟨st', w, e⟩
  · subst e
    simp only [List.isEmpty_nil, Bool.not_true, Bool.false_eq_true, if_false]
    simp only [ifS, tst1, bin2, getV, cst, wp_bind, wp_pure, g.s2, wp_ite]
    cases best with
    | none =>
      have hn : ∀ {Q : D → Sto → Prop} {E : Nat → Sto → Prop}, wp (isN (encB none) .non) S Q E = Q (.bl true) S := fun {Q E} => wp_eq rfl
      simp only [hn, wp_asB, if_true, wp_exc]
      refine ⟨trivial, ?_⟩
      cases e : waysW bolts lens with
      | nil => rfl
      | cons x xs =>
        rcases B.c2 x (by rw [e]; exact List.mem_cons_self) with ⟨v, hv, _⟩ | ⟨b, eb, _⟩
        · cases hv
        · cases eb
    | some b =>
      have hn : ∀ {Q : D → Sto → Prop} {E : Nat → Sto → Prop}, wp (isN (encB (some b)) .non) S Q E = Q (.bl false) S := fun {Q E} => wp_eq rfl
      simp only [hn, wp_asB, Bool.false_eq_true, if_false, skip, wp_pure, retS, getV, wp_bind, g.s2]
      refine ⟨b, rfl, B.c3 b rfl, fun x hx => ?_⟩
      obtain ⟨y, hy, rfl⟩ := List.mem_map.mp hx
      rcases B.c2 y hy with ⟨v, hv, _⟩ | ⟨b', eb, h⟩
      · cases hv
      · cases eb
        exact h
  · rw [List.concat_eq_append] at e
    subst e
    have he : (st' ++ [w]).isEmpty = false := by cases st' <;> rfl
    simp only [he, Bool.not_false, if_true]
    refine wp_mono (bestB1_wp g B hb hl (by omega)) (fun fl S2 h => ?_) fun _ _ z => z.elim
    obtain ⟨σ', st2, best2, hfl, g2, B2, hlt⟩ := h
    rcases hfl with rfl | rfl
    · exact ⟨msr lens st2, hlt, by omega, st2, best2, rfl, g2, B2⟩
    · exact ⟨msr lens st2, hlt, by omega, st2, best2, rfl, g2, B2⟩
end
end K04

set_option Elab.async false
set_option linter.all false
set_option maxRecDepth 100000
set_option maxHeartbeats 1000000
namespace K04
open PySem PySem.Spec PyProof.Rows L2 LamX Fd
/-! ### lays: data -/
abbrev Lay := Int × List Str
def sumL (due : List Lay) (nm : Str) : Int := (due.map fun p => if nm ∈ p.2 then p.1 else 0).sum
def leftW (ws : List (Str × Int)) (due : List Lay) : List (Str × Int) := ws.map fun q => (q.1, q.2 - sumL due q.1)
def posW (ls : List (Str × Int)) : List (Str × Int) := ls.filter fun q => decide (0 < q.2)
def minI (m : Int) (vs : List Int) : Int := vs.foldl (fun a y => if y < a then y else a) m
def newL1 (ws : List (Str × Int)) (most : Int) (due : List Lay) : Lay := (minI most ((posW (leftW ws due)).map (·.2)), (posW (leftW ws due)).map (·.1))
def stepL (ws : List (Str × Int)) (most : Int) (due : List Lay) : List Lay := due ++ [newL1 ws most due]
inductive Rn (ws : List (Str × Int)) (most : Int) : List Lay → List Lay → Prop
  | stop {due : List Lay} : posW (leftW ws due) = [] → Rn ws most due due
  | go {due fin : List Lay} : posW (leftW ws due) ≠ [] → Rn ws most (stepL ws most due) fin → Rn ws most due fin
theorem Rn.det {ws : List (Str × Int)} {most : Int} {due a b : List Lay} (h1 : Rn ws most due a) (h2 : Rn ws most due b) : a = b := by
  induction h1 with
  | stop h =>
    cases h2 with
    | stop _ => rfl
    | go h' _ => exact absurd h h'
  | go h _ ih =>
    cases h2 with
    | stop h' => exact absurd h' h
    | go _ h2 => exact ih h2
theorem leftW_nil (ws : List (Str × Int)) : leftW ws [] = ws := by
  unfold leftW
  refine (List.map_congr_left fun q _ => ?_).trans (List.map_id _)
  show (q.1, q.2 - 0) = q
  rw [Int.sub_zero]
theorem sumL_app (due : List Lay) (p : Lay) (nm : Str) : sumL (due ++ [p]) nm = sumL due nm + if nm ∈ p.2 then p.1 else 0 := by
  unfold sumL
  rw [List.map_append, List.sum_append]
  show _ + (_ + 0) = _
  rw [Int.add_zero]
theorem leftW_names (ws : List (Str × Int)) (due : List Lay) : (leftW ws due).map (·.1) = ws.map (·.1) := by
  unfold leftW
  rw [List.map_map]
  rfl
theorem leftW_step (ws : List (Str × Int)) (most : Int) (due : List Lay) : leftW ws (stepL ws most due) = (leftW ws due).map fun q => (q.1, if q.1 ∈ (newL1 ws most due).2 then q.2 - (newL1 ws most due).1 else q.2) := by
  unfold leftW stepL
  rw [List.map_map]
  refine List.map_congr_left fun q _ => ?_
  show (q.1, _) = (q.1, _)
  rw [sumL_app]
  show _ = (q.1, if q.1 ∈ (newL1 ws most due).2 then q.2 - sumL due q.1 - _ else q.2 - sumL due q.1)
  by_cases h : q.1 ∈ (newL1 ws most due).2
  · rw [if_pos h, if_pos h, Int.sub_sub]
  · rw [if_neg h, if_neg h, Int.add_zero]
theorem minI_le : ∀ (vs : List Int) (m : Int), minI m vs ≤ m ∧ ∀ v ∈ vs, minI m vs ≤ v
  | [], m => ⟨Int.le_refl _, fun v hv => by cases hv⟩
  | y :: vs, m => by
    have h := minI_le vs (if y < m then y else m)
    unfold minI at h ⊢
    rw [List.foldl_cons]
    refine ⟨?_, fun v hv => ?_⟩
    · by_cases c : y < m
      · rw [if_pos c] at h ⊢; omega
      · rw [if_neg c] at h ⊢; omega
    · rcases List.mem_cons.mp hv with rfl | hv
      · by_cases c : v < m
        · rw [if_pos c] at h ⊢; omega
        · rw [if_neg c] at h ⊢; omega
      · exact h.2 v hv
theorem minI_ge {b : Int} : ∀ (vs : List Int) (m : Int), b ≤ m → (∀ v ∈ vs, b ≤ v) → b ≤ minI m vs
  | [], m, h, _ => h
  | y :: vs, m, h, hv => by
    unfold minI
    rw [List.foldl_cons]
    refine minI_ge vs _ ?_ fun v h => hv v (List.mem_cons_of_mem _ h)
    by_cases c : y < m
    · rw [if_pos c]; exact hv y List.mem_cons_self
    · rw [if_neg c]; exact h
theorem minI_two : ∀ (vs : List Int) (m v : Int), (if minI v vs < m then minI v vs else m) = minI m (v :: vs)
  | [], m, v => rfl
  | y :: vs, m, v => by
    have h := minI_two vs m (if y < v then y else v)
    have e : minI v (y :: vs) = minI (if y < v then y else v) vs := rfl
    rw [e, h]
    show minI (if (if y < v then y else v) < m then (if y < v then y else v) else m) vs = minI (if y < (if v < m then v else m) then y else (if v < m then v else m)) vs
    congr 1
    by_cases c1 : y < v
    · rw [if_pos c1]
      by_cases c2 : v < m
      · rw [if_pos c2, if_pos c1, if_pos (by omega)]
      · rw [if_neg c2]
    · rw [if_neg c1]
      by_cases c2 : v < m
      · rw [if_pos c2, if_neg c1]
      · rw [if_neg c2, if_neg (by omega)]
theorem layer_pos {ws : List (Str × Int)} {most : Int} {due : List Lay} (hm : 1 ≤ most) : 1 ≤ (newL1 ws most due).1 := by
  refine minI_ge _ _ hm fun v hv => ?_
  obtain ⟨q, hq, rfl⟩ := List.mem_map.mp hv
  have := of_decide_eq_true (List.mem_filter.mp hq).2
  omega
theorem mem_sizes {ws : List (Str × Int)} {most : Int} {due : List Lay} (hn : (ws.map (·.1)).Nodup) {q : Str × Int} (hq : q ∈ leftW ws due) : q.1 ∈ (newL1 ws most due).2 ↔ 0 < q.2 := by
  constructor
  · intro h
    obtain ⟨p, hp, e⟩ := List.mem_map.mp h
    obtain ⟨hp, hc⟩ := List.mem_filter.mp hp
    have hn' : ((leftW ws due).map (·.1)).Nodup := by rw [leftW_names]; exact hn
    have e2 : p = q := by
      have h1 := val_bs hn' hp
      have h2 := val_bs hn' hq
      rw [e, h2] at h1
      have h1 : q.2 = p.2 := by
        injection h1 with h1
        injection h1
      cases p; cases q
      simp only at e h1
      rw [e, h1]
    rw [← e2]
    exact of_decide_eq_true hc
  · intro h
    exact List.mem_map.mpr ⟨q, List.mem_filter.mpr ⟨hq, decide_eq_true h⟩, rfl⟩
theorem left_nonneg {ws : List (Str × Int)} {most : Int} {due : List Lay} (hn : (ws.map (·.1)).Nodup) (h : ∀ q ∈ leftW ws due, 0 ≤ q.2) : ∀ q ∈ leftW ws (stepL ws most due), 0 ≤ q.2 := by
  intro q hq
  rw [leftW_step] at hq
  obtain ⟨p, hp, rfl⟩ := List.mem_map.mp hq
  have h0 := h p hp
  by_cases c : p.1 ∈ (newL1 ws most due).2
  · simp only [c, if_true]
    have hc := (mem_sizes hn hp).mp c
    have := (minI_le ((posW (leftW ws due)).map (·.2)) most).2 p.2 (List.mem_map.mpr ⟨p, List.mem_filter.mpr ⟨hp, decide_eq_true hc⟩, rfl⟩)
    show 0 ≤ p.2 - (newL1 ws most due).1
    unfold newL1
    simp only
    omega
  · simp only [c, if_false]
    exact h0
theorem Rn.zero {ws : List (Str × Int)} {most : Int} {due fin : List Lay} (hn : (ws.map (·.1)).Nodup) (r : Rn ws most due fin) (h : ∀ q ∈ leftW ws due, 0 ≤ q.2) : ∀ q ∈ leftW ws fin, q.2 = 0 := by
  induction r with
  | stop hp =>
    intro q hq
    have h0 := h q hq
    by_cases c : 0 < q.2
    · have : q ∈ posW (leftW ws _) := List.mem_filter.mpr ⟨hq, decide_eq_true c⟩
      rw [hp] at this
      cases this
    · omega
  | go hp r ih => exact ih (left_nonneg hn h)
/-- each size is cut as often as it is wanted -/
theorem Rn.made {ws : List (Str × Int)} {most : Int} {fin : List Lay} (hn : (ws.map (·.1)).Nodup) (h : ∀ q ∈ ws, 0 ≤ q.2) (r : Rn ws most [] fin) : (ws.map fun q => (q.1, sumL fin q.1)) = ws := by
  have hz := r.zero hn (by rw [leftW_nil]; exact h)
  refine (List.map_congr_left fun q hq => ?_).trans (List.map_id _)
  have := hz (q.1, q.2 - sumL fin q.1) (List.mem_map.mpr ⟨q, hq, rfl⟩)
  simp only at this
  show (q.1, sumL fin q.1) = q
  rw [show sumL fin q.1 = q.2 by omega]
def msL (ws : List (Str × Int)) (due : List Lay) : Nat := ((leftW ws due).map fun q => q.2.toNat).sum
theorem sum_lt_of {α : Type} {f g : α → Nat} : ∀ {l : List α}, (∀ x ∈ l, f x ≤ g x) → (∃ x ∈ l, f x < g x) → (l.map f).sum < (l.map g).sum
  | [], _, h => by obtain ⟨x, hx, _⟩ := h; cases hx
  | a :: l, h1, h2 => by
    have le : ∀ l : List α, (∀ x ∈ l, f x ≤ g x) → (l.map f).sum ≤ (l.map g).sum := by
      intro l
      induction l with
      | nil => intro _; exact Nat.le_refl _
      | cons b l ih =>
        intro h
        have := h b List.mem_cons_self
        have := ih fun x hx => h x (List.mem_cons_of_mem _ hx)
        rw [List.map_cons, List.map_cons, List.sum_cons, List.sum_cons]
        omega
    have ha := h1 a List.mem_cons_self
    have hl := le l fun x hx => h1 x (List.mem_cons_of_mem _ hx)
    rw [List.map_cons, List.map_cons, List.sum_cons, List.sum_cons]
    obtain ⟨x, hx, hlt⟩ := h2
    rcases List.mem_cons.mp hx with rfl | hx
    · omega
    · have := sum_lt_of (f := f) (g := g) (fun x hx => h1 x (List.mem_cons_of_mem _ hx)) ⟨x, hx, hlt⟩
      omega
theorem msL_lt {ws : List (Str × Int)} {most : Int} {due : List Lay} (hn : (ws.map (·.1)).Nodup) (hm : 1 ≤ most) (hp : posW (leftW ws due) ≠ []) : msL ws (stepL ws most due) < msL ws due := by
  unfold msL
  rw [leftW_step, List.map_map]
  have hl := layer_pos (ws := ws) (due := due) hm
  refine sum_lt_of (fun q hq => ?_) ?_
  · show (if q.1 ∈ (newL1 ws most due).2 then q.2 - (newL1 ws most due).1 else q.2).toNat ≤ q.2.toNat
    by_cases c : q.1 ∈ (newL1 ws most due).2
    · rw [if_pos c]; omega
    · rw [if_neg c]; exact Nat.le_refl _
  · cases e : posW (leftW ws due) with
    | nil => exact absurd e hp
    | cons q r =>
      have hq : q ∈ posW (leftW ws due) := by rw [e]; exact List.mem_cons_self
      obtain ⟨hq1, hq2⟩ := List.mem_filter.mp hq
      have hq2 := of_decide_eq_true hq2
      refine ⟨q, hq1, ?_⟩
      show (if q.1 ∈ (newL1 ws most due).2 then q.2 - (newL1 ws most due).1 else q.2).toNat < q.2.toNat
      rw [if_pos ((mem_sizes hn hq1).mpr hq2)]
      omega
def encL (p : Lay) : D := .tup [.int p.1, .tup (p.2.map .str)]
/-- names as they are sorted -/
def SortedN (ns : List Str) : Prop := ns.Pairwise fun a b => PySem.W.dataLt (.str b) (.str a) = false
theorem isort_id {α : Type} (le : α → α → Bool) : ∀ l : List α, l.Pairwise (fun a b => le a b = true) → isort le l = l
  | [], _ => rfl
  | a :: l, h => by
    rw [List.pairwise_cons] at h
    show insS le a (isort le l) = _
    rw [isort_id le l h.2]
    cases l with
    | nil => rfl
    | cons b l =>
      unfold insS
      rw [if_pos (h.1 b List.mem_cons_self)]
theorem sortN {ns : List Str} (h : SortedN ns) : sortP ((ns.map D.str).zip (ns.map PyData.str)) = ns.map D.str := by
  unfold sortP
  rw [zip_self, isort_id, List.map_map]
  · rfl
  · refine List.pairwise_map.mpr (h.imp fun {a b} h => ?_)
    unfold leP
    rw [h]
    rfl
theorem mapM_strs (S : Sto) (n : Nat) : ∀ l : List Str, (l.map D.str).mapM (toPy S n) = some (l.map PyData.str)
  | [] => rfl
  | i :: l => by
    rw [List.map_cons, List.mapM_cons, mapM_strs S n l]
    cases n <;> rfl
theorem alikeN (ns : List Str) : (alikeC (ns.map PyData.str) && sortableC (ns.map PyData.str)) = true := by
  have h1 : alikeC (ns.map PyData.str) = true := by
    unfold alikeC
    rw [List.all_eq_true]
    intro a ha
    rw [List.all_eq_true]
    intro b hb
    obtain ⟨p, _, rfl⟩ := List.mem_map.mp ha
    obtain ⟨q, _, rfl⟩ := List.mem_map.mp hb
    simp [PySem.W.alike]
  have h2 : sortableC (ns.map PyData.str) = true := by
    unfold sortableC
    rw [Bool.or_eq_true]
    refine .inr ?_
    rw [List.all_eq_true]
    intro a ha
    obtain ⟨p, _, rfl⟩ := List.mem_map.mp ha
    rfl
  rw [h1, h2]
  rfl
section
variable {S : Sto} {E : Nat → Sto → Prop} {Q : D → Sto → Prop} {σ : En}
theorem sortedN_wp {ns : List Str} (h : SortedN ns) : wp (sortedA false [.lst (ns.map D.str)]) S Q E = Q (.lst (ns.map D.str)) S := by
  refine wp_eq ?_
  show sortedC false [.lst (ns.map D.str)] S = _
  unfold sortedC
  show (match pysD S (ns.map D.str) with
    | some ps => if (alikeC ps && sortableC ps) = true then (if false = true then newL (sortP ((ns.map D.str).zip ps)) S else Fd.R.ok (.lst (sortP ((ns.map D.str).zip ps))) S) else Fd.R.stk
    | none => Fd.R.stk) = _
  have hp : pysD S (ns.map D.str) = some (ns.map PyData.str) := mapM_strs S 12 ns
  rw [hp]
  simp only [alikeN, if_true, Bool.false_eq_true, if_false, sortN h]
theorem sortedD_wp {l : Nat} {ls : List (Str × Int)} (ho : S.objs[l]? = some (.dct false (ls.map kvOf))) (hl : S.locked l = false) (h : SortedN (ls.map (·.1))) : wp (sortedA false [.ref l]) S Q E = Q (.lst ((ls.map (·.1)).map D.str)) S := by
  refine wp_eq ?_
  unfold sortedA altC
  simp only [dct_at ho, Option.isSome_some, if_true]
  unfold sortKC
  have hk : Fd.sortK S (.ref l) = some ((ls.map (·.1)).map D.str) := by
    unfold Fd.sortK
    first
      | (simp only [hl, ho, Bool.false_eq_true, if_false, List.map_map]; rfl)
      | (simp only [ho, List.map_map]; rfl)
      | (simp only [dct_at ho, List.map_map]; rfl)
  simp only [hk]
  have hp : pysD S ((ls.map (·.1)).map D.str) = some ((ls.map (·.1)).map PyData.str) := mapM_strs S 12 _
  simp only [hp, alikeN, if_true, Bool.false_eq_true, if_false, sortN h]
/-- a comprehension of any check that takes all it gets -/
theorem genL_any {α : Type} {bod : D → M (Option D)} {chk : List D → D → Option (Option D)} {fin : List D → M D} (enc : α → D) (f : α → Option D) (hc : ∀ ys y x, f x = some y → chk ys y = some none) : ∀ (xs : List α) (ys : List D), (∀ x ∈ xs, bod (enc x) S = .ok (f x) S) → wp (fin (ys ++ xs.filterMap f)) S Q E → wp (genL bod chk fin ys (xs.map enc)) S Q E
  | [], ys, _, h => by
    rw [List.filterMap_nil, List.append_nil] at h
    exact h
  | d :: ds, ys, hb, h => by
    rw [List.map_cons]
    unfold genL
    rw [wp_bind]
    have e := hb d List.mem_cons_self
    refine wp_nox (wp_of e ?_)
    cases ef : f d with
    | none =>
      rw [List.filterMap_cons, ef] at h
      exact genL_any enc f hc ds ys (fun x hx => hb x (List.mem_cons_of_mem _ hx)) h
    | some y =>
      rw [List.filterMap_cons, ef] at h
      simp only [hc ys y d ef]
      refine genL_any enc f hc ds (ys ++ [y]) (fun x hx => hb x (List.mem_cons_of_mem _ hx)) ?_
      rw [List.append_assoc]
      exact h
theorem best_fold : ∀ (vs : List Int) (v : Int), best ltB (v :: vs) = some (minI v vs) := by
  intro vs v
  unfold best
  rw [List.foldl_cons]
  have key : ∀ (vs : List Int) (v : Int), vs.foldl (fun o x => match o with
      | none => some x
      | some m => if ltB x m = true then some x else some m) (some v) = some (minI v vs) := by
    intro vs
    induction vs with
    | nil => intro v; rfl
    | cons y vs ih =>
      intro v
      rw [List.foldl_cons]
      show vs.foldl _ (if ltB y v = true then some y else some v) = _
      unfold ltB
      by_cases c : y < v
      · rw [if_pos (decide_eq_true c)]
        refine (ih y).trans ?_
        show _ = some (minI (if y < v then y else v) vs)
        rw [if_pos c]
      · rw [if_neg (by rw [decide_eq_false c]; exact Bool.false_ne_true)]
        refine (ih v).trans ?_
        show _ = some (minI (if y < v then y else v) vs)
        rw [if_neg c]
  exact key vs v
theorem genMin_ok {α : Type} {fit : En → M (List D)} {vs : List Nat} {g : D → En → M En} {t : En → M Bool} {fe : En → M D} (enc : α → D) (x : α) (xs : List α) (f : α → Int) (hit : fit σ S = .ok ((x :: xs).map enc) S) (hb : ∀ y ∈ x :: xs, bodG vs g t fe σ (enc y) S = .ok (some (.int (f y))) S) : genE fit vs g t fe chkInt (finBest ltB) σ S = .ok (.int (minI (f x) (xs.map f))) S := run_of fun Q E hq => by
  unfold genE
  rw [wp_bind, wp_eq hit]
  refine genL_any enc (fun y => some (D.int (f y))) (fun ys y z e => ?_) (x :: xs) [] hb ?_
  · cases e
    rfl
  · rw [List.nil_append, filterMap_some]
    refine wp_of (a := D.int (minI (f x) (xs.map f))) (S' := S) ?_ hq
    unfold finBest
    have e : ((x :: xs).map fun y => D.int (f y)).map dI = f x :: xs.map f := by
      rw [List.map_map, List.map_cons]
      rfl
    rw [e, best_fold]
    rfl
theorem genA_ok {α : Type} {fit : En → M (List D)} {vs : List Nat} {g : D → En → M En} {t : En → M Bool} {fe : En → M D} (enc : α → D) (xs : List α) (f : α → Bool) (hit : fit σ S = .ok (xs.map enc) S) (hb : ∀ y ∈ xs, bodG vs g t fe σ (enc y) S = .ok (some (.bl (f y))) S) : genE fit vs g t fe (chkB true) (finB false) σ S = .ok (.bl (xs.any f)) S := run_of fun Q E hq => by
  unfold genE
  rw [wp_bind, wp_eq hit]
  have key : ∀ (xs : List α) (ys : List D), (∀ y ∈ xs, bodG vs g t fe σ (enc y) S = .ok (some (.bl (f y))) S) → Q (.bl (xs.any f)) S → wp (genL (bodG vs g t fe σ) (chkB true) (finB false) ys (xs.map enc)) S Q E := by
    intro xs
    induction xs with
    | nil => intro ys _ hq; exact hq
    | cons x xs ih =>
      intro ys hb hq
      rw [List.map_cons]
      unfold genL
      rw [wp_bind]
      refine wp_nox (wp_of (hb x List.mem_cons_self) ?_)
      rw [List.any_cons] at hq
      cases e : f x with
      | true =>
        rw [e, Bool.true_or] at hq
        have hc : chkB true ys (.bl true) = some (some (.bl true)) := rfl
        simp only [hc]
        exact hq
      | false =>
        rw [e, Bool.false_or] at hq
        have hc : chkB true ys (.bl false) = some none := rfl
        simp only [hc]
        exact ih _ (fun y hy => hb y (List.mem_cons_of_mem _ hy)) hq
  exact key xs [] hb hq
end
end K04

set_option Elab.async false
set_option linter.all false
set_option maxRecDepth 100000
set_option maxHeartbeats 1000000
namespace K04
open PySem PySem.Spec PyProof.Rows L2 LamX Fd
/-! ### lays_for -/
/-- the state of lays_for behind some lays -/
structure Lf (σ : En) (S : Sto) (most : Int) (ls : List (Str × Int)) (due : List Lay) : Prop where
  n : σ.length = 7
  s1 : σ[1]? = some (some (.int most))
  s2 : σ[2]? = some (some (.ref 0))
  s3 : σ[3]? = some (some (.ref 1))
  o0 : S.objs[0]? = some (.dct false (ls.map kvOf))
  o1 : S.objs[1]? = some (.lst (due.map encL))
  l : S.lck = []
section
variable {S : Sto} {E : Nat → Sto → Prop} {σ : En} {most : Int} {ls : List (Str × Int)} {due : List Lay}
theorem Lf.lk (g : Lf σ S most ls due) (l : Nat) : S.locked l = false := by
  unfold Sto.locked
  rw [g.l]
  rfl
theorem Lf.set (g : Lf σ S most ls due) {i : Nat} (h : 3 < i) (v : Option D) : Lf (σ.set i v) S most ls due := by
  refine ⟨by rw [List.length_set]; exact g.n, ?_, ?_, ?_, g.o0, g.o1, g.l⟩
  · rw [List.getElem?_set_ne (by omega)]; exact g.s1
  · rw [List.getElem?_set_ne (by omega)]; exact g.s2
  · rw [List.getElem?_set_ne (by omega)]; exact g.s3
theorem kv_keys (ls : List (Str × Int)) : (ls.map kvOf).map (fun p => dkD p.1) = ls.map fun p => D.str p.1 := by
  rw [List.map_map]
  rfl
/-- does any size have something left -/
theorem any_left {Q : D → Sto → Prop} (g : Lf σ S most ls due) (hn : (ls.map (·.1)).Nodup) : wp (lockQ (locV 2) (genE (itSeq (getV 2)) [6] (nameG 6) yesT (bin2 gtI (bin2 itemO (getV 2) (getV 6)) (cst (.int 0))) (chkB true) (finB false)) σ) S (fun d S' => Q d S') E ↔ Q (.bl (ls.any fun q => decide (0 < q.2))) S := by
  have hg : locV 2 σ S = some 0 := by
    unfold locV
    rw [g.s2]
    show locD S (.ref 0) = _
    unfold locD
    simp only [g.o0]
  have ex : lockQ (locV 2) (genE (itSeq (getV 2)) [6] (nameG 6) yesT (bin2 gtI (bin2 itemO (getV 2) (getV 6)) (cst (.int 0))) (chkB true) (finB false)) σ S = .ok (.bl (ls.any fun q => decide (0 < q.2))) S := run_of fun Q E hq => by
    refine lockQ_wp hg (g.lk 0) g.o0 rfl ?_
    have hk : ({ S with lck := 0 :: S.lck } : Sto).locked 0 = true := by simp
    have hit : itSeq (getV 2) σ { S with lck := 0 :: S.lck } = .ok (ls.map fun p => D.str p.1) { S with lck := 0 :: S.lck } := run_of fun Q E hq => by
      simp only [itSeq, getV, wp_bind, wp_pure, g.s2]
      rw [itDct_wp (S := { S with lck := 0 :: S.lck }) g.o0 hk, kv_keys]
      exact hq
    have n6 : 6 < σ.length := by rw [g.n]; decide
    rw [wp_eq (genA_ok (fun p : Str × Int => D.str p.1) ls (fun q => decide (0 < q.2)) hit fun q hq => run_of fun Q E hq2 => ?_)]
    · exact ⟨rfl, hq⟩
    have e2 : ∀ v, (σ.set 6 v)[2]? = some (some (.ref 0)) := fun v => by rw [List.getElem?_set_ne (by decide)]; exact g.s2
    have hv := val_bs hn hq
    have hi : ∀ {Q : D → Sto → Prop} {E : Nat → Sto → Prop}, wp (itemO (.ref 0) (.str q.1)) { S with lck := 0 :: S.lck } Q E = Q (.int q.2) { S with lck := 0 :: S.lck } := item_wp g.o0 hv
    simp only [bodG, nameG, yesT, wipeE, bin2, getV, cst, wp_bind, wp_pure, wp_ite, if_true, List.set_set, List.getElem?_set_self n6, e2, hi, wp_gtI]
    exact hq2
  rw [wp_eq ex]
theorem left_keys {ws : List (Str × Int)} (hs : SortedN (ws.map (·.1))) (due : List Lay) : SortedN ((leftW ws due).map (·.1)) := by rw [leftW_names]; exact hs
/-- the sizes of the next lay -/
theorem sizes_ok (g : Lf σ S most ls due) (hn : (ls.map (·.1)).Nodup) (hs : SortedN (ls.map (·.1))) (hz : ls.length ≤ 100) : genE (itSeq (callE (consA (getV 2) nilA) (sortedA false))) [6] (nameG 6) (tst1 (bin2 gtI (bin2 itemO (getV 2) (getV 6)) (cst (.int 0)))) (getV 6) chkAll finTup σ S = .ok (.tup (((posW ls).map (·.1)).map D.str)) S := by
  have n6 : 6 < σ.length := by rw [g.n]; decide
  have hit : itSeq (callE (consA (getV 2) nilA) (sortedA false)) σ S = .ok (ls.map fun p => D.str p.1) S := run_of fun Q E hq => by
    simp only [itSeq, callE, consA, nilA, getV, wp_bind, wp_pure, g.s2, sortedD_wp g.o0 (g.lk 0) hs, itemsL_wp, List.map_map]
    exact hq
  refine run_of fun Q E hq => ?_
  refine genE_wp (fun p : Str × Int => D.str p.1) ls (fun q => if decide (0 < q.2) = true then some (D.str q.1) else none) hit (fun q hq0 => run_of fun Q E hq => ?_) (Nat.le_trans hz (by decide)) ?_
  · have e2 : ∀ v, (σ.set 6 v)[2]? = some (some (.ref 0)) := fun v => by rw [List.getElem?_set_ne (by decide)]; exact g.s2
    have hv := val_bs hn hq0
    simp only [bodG, nameG, wipeE, tst1, bin2, getV, cst, wp_bind, wp_pure, wp_ite, List.set_set, List.getElem?_set_self n6, e2, item_wp g.o0 hv, wp_gtI, wp_asB]
    by_cases c : decide (0 < q.2) = true
    · rw [if_pos c] at hq ⊢
      exact hq
    · rw [if_neg c] at hq ⊢
      exact hq
  · rw [filterMap_if]
    refine wp_of (a := D.tup ((ls.filter fun q => decide (0 < q.2)).map fun q => D.str q.1)) rfl ?_
    unfold posW at hq
    rw [List.map_map] at hq
    exact hq
theorem any_pos (ls : List (Str × Int)) : (ls.any fun q => decide (0 < q.2)) = !(posW ls).isEmpty := by
  unfold posW
  induction ls with
  | nil => rfl
  | cons q ls ih =>
    rw [List.any_cons, List.filter_cons, ih]
    by_cases c : decide (0 < q.2) = true
    · rw [c, if_pos rfl]; rfl
    · rw [if_neg c]
      rw [Bool.not_eq_true] at c
      rw [c]
      rfl
theorem mem_pos {q : Str × Int} (h : q ∈ posW ls) : q ∈ ls := (List.mem_filter.mp h).1
/-- one lay -/
theorem lay_wp {Q : Fl → Sto → Prop} {ws : List (Str × Int)} (g : Lf σ S most (leftW ws due) due) (hn : (ws.map (·.1)).Nodup) (hs : SortedN (ws.map (·.1))) (hz : ws.length ≤ 100) (hd : due.length ≤ 100000) (hp : posW (leftW ws due) ≠ [])
    (k : ∀ σ' S', Lf σ' S' most (leftW ws (stepL ws most due)) (stepL ws most due) → Q (.nx σ') S') : wp (L_laysFor_b1 σ) S Q E := by
  obtain ⟨ls, els⟩ : ∃ ls, ls = leftW ws due := ⟨_, rfl⟩
  have hn' : (ls.map (·.1)).Nodup := by rw [els, leftW_names]; exact hn
  have hs' : SortedN (ls.map (·.1)) := by rw [els, leftW_names]; exact hs
  have hz' : ls.length ≤ 100 := by rw [els]; unfold leftW; rw [List.length_map]; exact hz
  obtain ⟨ly, ely⟩ : ∃ ly, ly = newL1 ws most due := ⟨_, rfl⟩
  have ely1 : ly.1 = minI most ((posW ls).map (·.2)) := by rw [ely, els]; rfl
  have ely2 : ly.2 = (posW ls).map (·.1) := by rw [ely, els]; rfl
  have estep : leftW ws (stepL ws most due) = ls.map fun q => (q.1, if q.1 ∈ ly.2 then q.2 - ly.1 else q.2) := by rw [leftW_step, ← els, ← ely]
  have edue : stepL ws most due = due ++ [ly] := by rw [ely]; rfl
  rw [← els] at g hp
  unfold L_laysFor_b1
  simp only [seqS, setS, wp_bind, wp_eq (sizes_ok g hn' hs' hz'), wp_pure]
  rw [← ely2]
  have g1 := g.set (i := 4) (by decide) (some (.tup (ly.2.map D.str)))
  have k4 : (σ.set 4 (some (.tup (ly.2.map D.str))))[4]? = some (some (.tup (ly.2.map D.str))) := List.getElem?_set_self (by rw [g.n]; decide)
  generalize σ.set 4 (some (.tup (ly.2.map D.str))) = σ1 at g1 k4 ⊢
  have n6 : 6 < σ1.length := by rw [g1.n]; decide
  have hmin : wp (callE (consA (getV 1) (consA (lockQ (locV 4) (genE (itSeq (getV 4)) [6] (nameG 6) yesT (bin2 itemO (getV 2) (getV 6)) chkInt (finBest ltB))) nilA)) min2C σ1) S (fun d S' => d = .int ly.1 ∧ S' = S) (fun _ _ => False) := by
    cases e : posW ls with
    | nil => exact absurd e hp
    | cons p ps =>
      have hit : itSeq (getV 4) σ1 S = .ok ((p :: ps).map fun q => D.str q.1) S := run_of fun Q E hq => by
        simp only [itSeq, getV, wp_bind, wp_pure, k4, itemsT_wp]
        rw [ely2, e, List.map_map]
        exact hq
      have gen := genMin_ok (S := S) (σ := σ1) (vs := [6]) (g := nameG 6) (t := yesT) (fe := bin2 itemO (getV 2) (getV 6)) (fun q : Str × Int => D.str q.1) p ps (fun q => q.2) hit fun q hq0 => run_of fun Q E hq => by
        have e2 : ∀ v, (σ1.set 6 v)[2]? = some (some (.ref 0)) := fun v => by rw [List.getElem?_set_ne (by decide)]; exact g1.s2
        have hv := val_bs hn' (mem_pos (by rw [e]; exact hq0))
        simp only [bodG, nameG, yesT, wipeE, bin2, getV, wp_bind, wp_pure, wp_ite, if_true, List.set_set, List.getElem?_set_self n6, e2, item_wp g1.o0 hv]
        exact hq
      simp only [callE, consA, nilA, wp_bind, lockT_wp k4, wp_eq gen, wp_pure, getV, g1.s1]
      refine wp_of (a := D.int (if minI p.2 (ps.map (·.2)) < most then minI p.2 (ps.map (·.2)) else most)) (S' := S) rfl ⟨?_, rfl⟩
      rw [minI_two, ely1, e]
      rfl
  obtain ⟨d, S1, e1, rfl, rfl⟩ := wp_out hmin
  rw [wp_eq e1]
  have g2 := g1.set (i := 5) (by decide) (some (.int ly.1))
  have j4 : (σ1.set 5 (some (.int ly.1)))[4]? = some (some (.tup (ly.2.map D.str))) := by rw [List.getElem?_set_ne (by decide)]; exact k4
  have j5 : (σ1.set 5 (some (.int ly.1)))[5]? = some (some (.int ly.1)) := List.getElem?_set_self (by rw [g1.n]; decide)
  generalize σ1.set 5 (some (.int ly.1)) = σ2 at g2 j4 j5 ⊢
  rw [lockT_wp j4]
  simp only [forS, itSeq, getV, wp_bind, wp_pure, j4, itemsT_wp]
  refine wp_loop (fun ds σ' S' => ∃ done todo, ly.2 = done ++ todo ∧ ds = todo.map D.str ∧ Lf σ' S' most (ls.map fun q => (q.1, if q.1 ∈ done then q.2 - ly.1 else q.2)) due ∧ σ'[4]? = some (some (.tup (ly.2.map D.str))) ∧ σ'[5]? = some (some (.int ly.1))) (fun d ds σ' S' h => ?_) (fun σ' S' h => ?_) _ _ _ ⟨[], ly.2, rfl, rfl, ?_, j4, j5⟩
  · obtain ⟨done, todo, hf, hds, g4, m4, m5⟩ := h
    cases todo with
    | nil => cases hds
    | cons nm todo =>
      rw [List.map_cons] at hds
      injection hds with hd1 hd2
      subst hd1
      obtain ⟨q0, hq0, eq0⟩ : ∃ q ∈ ls, q.1 = nm := by
        have : nm ∈ ly.2 := by rw [hf]; exact List.mem_append_right _ List.mem_cons_self
        rw [ely2] at this
        obtain ⟨q, hq, e⟩ := List.mem_map.mp this
        exact ⟨q, mem_pos hq, e⟩
      subst eq0
      have hnd : q0.1 ∉ done := by
        have hnn : ly.2.Nodup := by
          rw [ely2]
          exact List.Nodup.sublist (List.Sublist.map _ List.filter_sublist) hn'
        rw [hf] at hnn
        exact fun z => (List.nodup_append.mp hnn).2.2 _ z _ List.mem_cons_self rfl
      obtain ⟨cur, ecur⟩ : ∃ cur, cur = ls.map fun q => (q.1, if q.1 ∈ done then q.2 - ly.1 else q.2) := ⟨_, rfl⟩
      rw [← ecur] at g4
      have hnc : (cur.map (·.1)).Nodup := by
        rw [ecur, List.map_map]
        exact hn'
      have hmc : (q0.1, q0.2) ∈ cur := by
        rw [ecur]
        exact List.mem_map.mpr ⟨q0, hq0, by rw [if_neg hnd]⟩
      have hv := val_bs hnc hmc
      have hsz : (cur.map kvOf).length < sizeLine := by
        rw [List.length_map, ecur, List.length_map]
        exact Nat.lt_of_le_of_lt hz' (by decide)
      have e6 : ∀ v, (σ'.set 6 v)[6]? = some v := fun v => List.getElem?_set_self (by rw [g4.n]; decide)
      have e2 : ∀ v, (σ'.set 6 v)[2]? = some (some (.ref 0)) := fun v => by rw [List.getElem?_set_ne (by decide)]; exact g4.s2
      have e5 : ∀ v, (σ'.set 6 v)[5]? = some (some (.int ly.1)) := fun v => by rw [List.getElem?_set_ne (by decide)]; exact m5
      unfold L_laysFor_b0
      simp only [nameG, wp_pure, augSubS, getV, wp_bind, e2, e5, e6, dget_wp g4.o0 hv, wp_subI, setD_wp g4.o0 (g4.lk 0) hsz]
      rw [put_bs (List.mem_map.mpr ⟨_, hmc, rfl⟩)]
      refine ⟨done ++ [q0.1], todo, by rw [hf, List.append_assoc]; rfl, hd2, ?_, ?_, ?_⟩
      · have enew : (cur.map fun q => (q.1, if q.1 = q0.1 then q0.2 - ly.1 else q.2)) = ls.map fun q => (q.1, if q.1 ∈ done ++ [q0.1] then q.2 - ly.1 else q.2) := by
          rw [ecur, List.map_map]
          refine List.map_congr_left fun q hq => ?_
          show (q.1, if q.1 = q0.1 then q0.2 - ly.1 else if q.1 ∈ done then q.2 - ly.1 else q.2) = _
          by_cases c : q.1 = q0.1
          · have : q = q0 := by
              have h1 := val_bs hn' hq
              have h2 := val_bs hn' hq0
              rw [c, h2] at h1
              have h1 : q0.2 = q.2 := by
                injection h1 with h1
                injection h1
              cases q; cases q0
              simp only at c h1
              rw [c, h1]
            subst this
            rw [if_pos rfl, if_pos (List.mem_append_right _ (List.mem_singleton.mpr rfl))]
          · rw [if_neg c]
            by_cases c2 : q.1 ∈ done
            · rw [if_pos c2, if_pos (List.mem_append_left _ c2)]
            · rw [if_neg c2, if_neg (fun z => (List.mem_append.mp z).elim c2 fun z => c (List.mem_singleton.mp z))]
        rw [← enew]
        have g5 := g4.set (i := 6) (by decide) (some (D.str q0.1))
        exact ⟨g5.n, g5.s1, g5.s2, g5.s3, put_at (lt_of_get g4.o0), by rw [put_ne (by decide)]; exact g4.o1, g4.l⟩
      · first | trivial | (rw [List.getElem?_set_ne (by decide)]; exact m4)
      · first | trivial | (rw [List.getElem?_set_ne (by decide)]; exact m5)
  · obtain ⟨done, todo, hf, hds, g4, m4, m5⟩ := h
    have hds : todo = [] := List.map_eq_nil_iff.mp hds.symm
    subst hds
    rw [List.append_nil] at hf
    subst hf
    have hzd : (due.map encL).length < sizeLine := by rw [List.length_map]; exact Nat.lt_of_le_of_lt hd (by decide)
    simp only [exprS, bmE, consA, nilA, wp_bind, tup2_wp]
    simp only [getV, wp_pure, g4.s3, chkL_wp g4.o1 (g4.lk 1), m4, m5, app_wp g4.o1 (g4.lk 1) hzd]
    refine k _ _ ?_
    rw [estep, edue]
    exact ⟨g4.n, g4.s1, g4.s2, g4.s3, by rw [put_ne (by decide)]; exact g4.o0, by rw [List.map_append]; exact put_at (lt_of_get g4.o1), g4.l⟩
  · have e : (ls.map fun q => (q.1, if q.1 ∈ ([] : List Str) then q.2 - ly.1 else q.2)) = ls := (List.map_congr_left fun q _ => by rw [if_neg List.not_mem_nil]; rfl).trans (List.map_id _)
    rw [e]
    exact g2
theorem any_neg {ws : List (Str × Int)} (h : σ[0]? = some (some (.dct false (ws.map kvOf)))) (n6 : 6 < σ.length) (hn : (ws.map (·.1)).Nodup) (hp : ∀ q ∈ ws, 0 ≤ q.2) : genE (itSeq (getV 0)) [6] (nameG 6) yesT (bin2 ltA (bin2 itemO (getV 0) (getV 6)) (cst (.int 0))) (chkB true) (finB false) σ S = .ok (.bl false) S := by
  have hit : itSeq (getV 0) σ S = .ok (ws.map fun p => D.str p.1) S := run_of fun Q E hq => by
    simp only [itSeq, getV, wp_bind, wp_pure, h, itemsD_wp, kv_keys]
    exact hq
  rw [genA_ok (fun p : Str × Int => D.str p.1) ws (fun q => decide (q.2 < 0)) hit fun q hq0 => run_of fun Q E hq => ?_]
  · have : (ws.any fun q => decide (q.2 < 0)) = false := by
      rw [List.any_eq_false]
      intro q hq
      have := hp q hq
      rw [decide_eq_false (by omega)]
      exact Bool.false_ne_true
    rw [this]
  · have e0 : ∀ v, (σ.set 6 v)[0]? = some (some (.dct false (ws.map kvOf))) := fun v => by rw [List.getElem?_set_ne (by decide)]; exact h
    simp only [bodG, nameG, yesT, wipeE, bin2, getV, cst, wp_bind, wp_pure, wp_ite, if_true, List.set_set, List.getElem?_set_self n6, e0, itemV_wp (val_bs hn hq0), wp_ltI]
    exact hq
theorem lays_ok {ws : List (Str × Int)} (hn : (ws.map (·.1)).Nodup) (hs : SortedN (ws.map (·.1))) (hz : ws.length ≤ 100) (hp : ∀ q ∈ ws, 0 ≤ q.2 ∧ q.2 ≤ 100) (hm : 1 ≤ most) :
    wp (bodyD 7 dn_laysFor [.dct false (ws.map kvOf), .int most]) Sto.e (fun d _ => ∃ due : List Lay, d = .tup (due.map encL) ∧ Rn ws most [] due) (fun _ _ => False) := by
  have e0 : ([some (.dct false (ws.map kvOf)), some (.int most), none, none, none, none, none] : En)[0]? = some (some (.dct false (ws.map kvOf))) := rfl
  have en : ∀ {S : Sto}, genE (itSeq (getV 0)) [6] (nameG 6) yesT (bin2 ltA (bin2 itemO (getV 0) (getV 6)) (cst (.int 0))) (chkB true) (finB false) [some (.dct false (ws.map kvOf)), some (.int most), none, none, none, none, none] S = .ok (.bl false) S := fun {S} => any_neg e0 (show 6 < 7 by decide) hn fun q hq => (hp q hq).1
  unfold bodyD dn_laysFor
  rw [show startD 7 [D.dct false (ws.map kvOf), .int most] = [some (.dct false (ws.map kvOf)), some (.int most), none, none, none, none, none] from rfl]
  have n1 : ¬ most < 1 := by omega
  have dc : ∀ {Q : D → Sto → Prop} {E : Nat → Sto → Prop}, wp (dictC [.dct false (ws.map kvOf)]) Sto.e Q E = Q (.ref 0) (Sto.e.push (.dct false (ws.map kvOf))) := fun {Q E} => wp_eq rfl
  simp only [seqS, ifS, orT, tst1, bin2, getV, cst, wp_bind, wp_pure, wp_ite, List.getElem?_cons_zero, List.getElem?_cons_succ, wp_ltI, wp_asB, decide_eq_true_eq, n1, if_false, lockD_wp e0, wp_eq en, Bool.false_eq_true, skip]
  simp only [asgS, tup2_wp, wp_bind, callE, consA, nilA, getV, wp_pure, List.getElem?_cons_zero, dc, lstO, wp_ite, List.length_nil, show (0 ≤ sizeLine) = True from eq_true (Nat.zero_le _), if_true, newL_wp, tupG, tupD, consG, nilG, nameG, List.length_cons, show ((0 : Nat) + 1 + 1 = 2) = True from eq_true rfl, List.set_cons_zero, List.set_cons_succ]
  have g0 : Lf [some (.dct false (ws.map kvOf)), some (.int most), some (.ref 0), some (.ref 1), none, none, none] ((Sto.e.push (.dct false (ws.map kvOf))).push (.lst [])) most (leftW ws []) [] := by
    rw [leftW_nil]
    exact ⟨rfl, rfl, rfl, rfl, rfl, rfl, rfl⟩
  show wp (whileM L_laysFor_t0 L_laysFor_b1 100000 [some (.dct false (ws.map kvOf)), some (.int most), some (.ref 0), some (.ref 1), none, none, none]) ((Sto.e.push (.dct false (ws.map kvOf))).push (.lst [])) _ _
  generalize (Sto.e.push (.dct false (ws.map kvOf))).push (.lst []) = S0 at g0 ⊢
  generalize ([some (.dct false (ws.map kvOf)), some (.int most), some (.ref 0), some (.ref 1), none, none, none] : En) = σ0 at g0 ⊢
  have m0 : msL ws [] ≤ 10000 := by
    unfold msL
    rw [leftW_nil]
    have key : ∀ l : List (Str × Int), (∀ q ∈ l, q.2 ≤ 100) → (l.map fun q => q.2.toNat).sum ≤ 100 * l.length := by
      intro l
      induction l with
      | nil => intro _; exact Nat.le_refl _
      | cons q l ih =>
        intro h
        have h1 := h q List.mem_cons_self
        have h2 := ih fun x hx => h x (List.mem_cons_of_mem _ hx)
        rw [List.map_cons, List.sum_cons, List.length_cons]
        omega
    have := key ws fun q hq => (hp q hq).2
    omega
  refine wp_while (fun m σ S => ∃ due, m = msL ws due ∧ m + due.length ≤ 10000 ∧ Lf σ S most (leftW ws due) due ∧ ∀ fin, Rn ws most due fin → Rn ws most [] fin) (fun m σ S h => ?_) 100000 (msL ws []) σ0 S0 (by omega) ⟨[], rfl, by simpa using m0, g0, fun _ h => h⟩
  obtain ⟨due, rfl, hd, g, hR⟩ := h
  have hnl : ((leftW ws due).map (·.1)).Nodup := by rw [leftW_names]; exact hn
  unfold L_laysFor_t0
  unfold tst1
  rw [wp_bind]
  refine (any_left (Q := fun d S' => wp (asB d) S' _ _) g hnl).mpr ?_
  rw [wp_asB, any_pos]
  cases e : posW (leftW ws due) with
  | nil =>
    simp only [List.isEmpty_nil, Bool.not_true, Bool.false_eq_true, if_false]
    have tc : ∀ {Q : D → Sto → Prop} {E : Nat → Sto → Prop}, wp (tupC [.ref 1]) S Q E = Q (.tup (due.map encL)) S := fun {Q E} => by
      refine wp_eq ?_
      have e2 : seqL S (.ref 1) = some (due.map encL) := by unfold seqL; simp only [g.o1]
      show (match seqL S (D.ref 1) with
        | some xs => Fd.R.ok (D.tup xs) S
        | none => Fd.R.stk) = _
      rw [e2]
    simp only [retS, callE, consA, nilA, getV, wp_bind, wp_pure, g.s3, tc]
    exact ⟨due, rfl, hR due (.stop e)⟩
  | cons p ps =>
    simp only [List.isEmpty_cons, Bool.not_false, if_true]
    have hpn : posW (leftW ws due) ≠ [] := by rw [e]; exact List.cons_ne_nil _ _
    refine lay_wp g hn hs hz (by omega) hpn fun σ' S' g' => ?_
    have hlt := msL_lt (most := most) hn hm hpn
    refine ⟨msL ws (stepL ws most due), hlt, stepL ws most due, rfl, ?_, g', fun fin h => hR fin (.go hpn h)⟩
    show msL ws (stepL ws most due) + (due ++ [newL1 ws most due]).length ≤ 10000
    rw [List.length_append]
    show _ + (_ + 1) ≤ _
    omega
end
end K04

set_option Elab.async false
set_option linter.all false
set_option maxRecDepth 100000
set_option maxHeartbeats 1000000
namespace K04
open PySem PySem.Spec PyProof.Rows L2 LamX Fd
/-! ### the law's round -/
def rd0 : En → M Fl := (asgS (tupV (consA (callE nilA (makeO 1 (arg 1 D_CupboardInit))) (consA (newDV false) (consA (lstV nilA) (consA (cst (.int 0)) (consA (cst (.int 0)) nilA)))))) (tupG 5 (consG (nameG 2) (consG (nameG 3) (consG (nameG 4) (consG (nameG 5) (consG (nameG 6) nilG)))))))
def rd1 : En → M Fl := (forS (rng1 (callE (consA (getV 1) (consA (cst (.int 31)) nilA)) (arg 2 D_lawRoll))) (nameG 7) L_law_b0)
def rd2 : En → M Fl := (asgS (tupV (consA (genE (rng1 (bin2 addA (cst (.int 1)) (callE (consA (getV 1) (consA (cst (.int 3)) nilA)) (arg 2 D_lawRoll)))) [24] (nameG 24) yesT (callE (consA (getV 1) (consA (cst (.int 60)) nilA)) (arg 2 D_lawRoll)) chkAll finLst) (consA (genE (rng1 (callE (consA (getV 1) (consA (cst (.int 6)) nilA)) (arg 2 D_lawRoll))) [24] (nameG 24) yesT (bin2 addA (cst (.int 1)) (callE (consA (getV 1) (consA (cst (.int 25)) nilA)) (arg 2 D_lawRoll))) chkAll finLst) nilA))) (tupG 2 (consG (nameG 14) (consG (nameG 15) nilG))))
def rd3 : En → M Fl := (setS 16 (callE (consA (genE (itSeq (callE (consA (getV 14) (consA (getV 15) nilA)) (arg 2 D_lawWays))) [26, 27] (tupG 2 (consG (nameG 26) (consG (nameG 27) nilG))) yesT (tupV (consA (callE (consA (genE (rng1 (callE (consA (getV 27) nilA) lenC)) [24] (nameG 24) (andT (tst1 (bin2 inO (getV 24) (getV 26))) (tst1 (bin2 ltA (bin2 itemO (getV 27) (getV 24)) (cst (.int 10))))) (bin2 itemO (getV 27) (getV 24)) chkAll finLst) nilA) sumC) (consA (getV 26) nilA))) chkAll finLst) nilA) (sortedA false)))
def rd4 : En → M Fl := (ifS (tst1 (bin2 neA (toldE okc "BoltError" (callE (consA (getV 14) (consA (getV 15) nilA)) (arg 2 D_bestCuts))) (ifV (tst1 (bin2 neA (getV 16) (lstV nilA))) (bin2 itemO (getV 16) (cst (.int 0))) (cst (.str "BoltError"))))) (retS (cst (.bl false))) skip)
def rd5 : En → M Fl := (asgS (tupV (consA (dictV (consA (genE (rng1 (callE (consA (getV 1) (consA (cst (.int 5)) nilA)) (arg 2 D_lawRoll))) [24] (nameG 24) yesT (tupV (consA (bin2 addA (cst (.str "s")) (callE (consA (getV 24) nilA) strC)) (consA (callE (consA (getV 1) (consA (cst (.int 12)) nilA)) (arg 2 D_lawRoll)) nilA))) chkAll finLst) nilA)) (consA (bin2 addA (cst (.int 1)) (callE (consA (getV 1) (consA (cst (.int 6)) nilA)) (arg 2 D_lawRoll))) nilA))) (tupG 2 (consG (nameG 17) (consG (nameG 18) nilG))))
def rd6 : En → M Fl := (setS 19 (toldE okc "BoltError" (callE (consA (getV 17) (consA (getV 18) nilA)) (arg 2 D_laysFor))))
def rd7 : En → M Fl := (asgS (tupV (consA (dictV (consA (lockQ (locV 17) (genE (itSeq (getV 17)) [28] (nameG 28) yesT (tupV (consA (getV 28) (consA (cst (.int 0)) nilA))) chkAll finLst)) nilA)) (consA (dictV (consA (itemsE (getV 17)) nilA)) (consA (lstV nilA) nilA)))) (tupG 3 (consG (nameG 20) (consG (nameG 13) (consG (nameG 21) nilG)))))
def rd8 : En → M Fl := (whileM L_law_t0 L_law_b1 100000)
def rd9 : En → M Fl := (lockQ (locV 19) (forS (itSeq (getV 19)) (tupG 2 (consG (nameG 23) (consG (nameG 22) nilG))) L_law_b2))
def rd10 : En → M Fl := (ifS (orT (tst1 (bin2 neA (getV 20) (getV 17))) (tst1 (bin2 neA (callE (consA (getV 19) nilA) (listC false)) (getV 21)))) (retS (cst (.bl false))) skip)
theorem b3_eq : L_law_b3 = seqS rd0 (seqS rd1 (seqS rd2 (seqS rd3 (seqS rd4 (seqS rd5 (seqS rd6 (seqS rd7 (seqS rd8 (seqS rd9 rd10))))))))) := rfl
structure Dc (σ : En) (S : Sto) (ld : Nat) : Prop where
  n : σ.length = 32
  s1 : σ[1]? = some (some (.ref ld))
  d : diceAt S ld
section
variable {S : Sto} {E : Nat → Sto → Prop} {σ : En} {ld : Nat}
theorem Dc.set (h : Dc σ S ld) {i : Nat} (hi : 1 < i) (v : Option D) : Dc (σ.set i v) S ld :=
  ⟨by rw [List.length_set]; exact h.n, by rw [List.getElem?_set_ne (by omega)]; exact h.s1, h.d⟩
theorem Dc.lt (h : Dc σ S ld) {i : Nat} (hi : i < 32) : i < σ.length := by rw [h.n]; exact hi
theorem rollE_wp {Q : D → Sto → Prop} {m : Int} (h : Dc σ S ld) (hm : 0 < m) (hm2 : m ≤ 100000000) (k : ∀ r a b c : Int, 0 ≤ r → r < m → Q (.int r) (S.put ld (.lst [.int a, .int b, .int c]))) : wp (callE (consA (getV 1) (consA (cst (.int m)) nilA)) (arg 2 D_lawRoll) σ) S Q E := by
  simp only [callE, consA, nilA, arg, getV, cst, wp_bind, wp_pure, wp_ite, h.s1, List.length_cons, List.length_nil, show ((0 : Nat) + 1 + 1 = 2) = True from eq_true rfl, if_true]
  exact roll_wp h.d hm hm2 k
theorem Dc.roll (h : Dc σ S ld) (a b c : Int) : Dc σ (S.put ld (.lst [.int a, .int b, .int c])) ld := ⟨h.n, h.s1, h.d.put a b c⟩
/-! rd0: a new cupboard -/
theorem make_wp {Q : D → Sto → Prop} (hl : S.locked S.n = false) (k : Q (.ref S.n) (cupS S)) : wp (callE nilA (makeO 1 (arg 1 D_CupboardInit)) σ) S Q E := by
  have e : D_CupboardInit [.ref S.n] (S.push (.ins 1 [])) = .ok .non (cupS S) := run_of fun Q E hq => init_wp hl hq
  simp only [callE, nilA, wp_bind, wp_pure]
  refine wp_of ?_ k
  unfold makeO arg
  simp only [List.length_cons, List.length_nil, show ((0 : Nat) + 1 = 1) = True from eq_true rfl, if_true, e]
theorem cupS_cup (hl : ∀ k, S.n ≤ k → S.locked k = false) : Cup (cupS S) S.n (S.n + 1) (S.n + 2) [] [] 0 := by
  have at_ : ∀ i, (cupS S).objs[S.n + i]? = ([.ins 1 (cupF (S.n + 1) (S.n + 2) 0), .dct false [], .lst []] : List SO)[i]? := fun i => by
    show (S.objs ++ _)[S.objs.length + i]? = _
    rw [List.getElem?_append_right (Nat.le_add_right _ _), Nat.add_sub_cancel_left]
  exact ⟨at_ 0, at_ 1, at_ 2, hl _ (Nat.le_refl _), hl _ (by omega), hl _ (by omega)⟩
theorem rd0_wp {Q : Fl → Sto → Prop} (h : Dc σ S ld) (hl : ∀ k, ld ≤ k → S.locked k = false) (k : ∀ σ' S' lc lb lu, Sg σ' ld lc [] [] 0 0 → Wd S' ld lc lb lu [] [] 0 → Q (.nx σ') S') : wp (rd0 σ) S Q E := by
  have hlt : ld < S.n := by
    obtain ⟨_, _, _, _, e⟩ := h.d
    exact lt_of_get e
  unfold rd0
  have ndv : ∀ {S : Sto} {Q : D → Sto → Prop} {E : Nat → Sto → Prop} (σ : En), wp (newDV false σ) S Q E = Q (.dct false []) S := fun _ => rfl
  simp only [asgS, tupV, consA, nilA, wp_bind]
  refine make_wp (hl _ (by omega)) ?_
  simp only [ndv, lst0_wp, cst, wp_pure, wp_ite, List.length_cons, List.length_nil, show (0 + 1 + 1 + 1 + 1 + 1 ≤ sizeLine) = True from eq_true (by decide), if_true, tupG, tupD, consG, nilG, nameG, wp_bind, show ((0 : Nat) + 1 + 1 + 1 + 1 + 1 = 5) = True from eq_true rfl]
  refine k _ (cupS S) S.n (S.n + 1) (S.n + 2) ?_ ⟨?_, cupS_cup fun k hk => hl k (by omega), ⟨by omega, by omega, by omega⟩⟩
  · have hn := h.n
    refine ⟨by simp only [List.length_set]; exact hn, ?_, ?_, ?_, ?_, ?_, ?_⟩
    · simp only [List.getElem?_set_ne (show (6 : Nat) ≠ 1 by decide), List.getElem?_set_ne (show (5 : Nat) ≠ 1 by decide), List.getElem?_set_ne (show (4 : Nat) ≠ 1 by decide), List.getElem?_set_ne (show (3 : Nat) ≠ 1 by decide), List.getElem?_set_ne (show (2 : Nat) ≠ 1 by decide)]
      exact h.s1
    · rw [List.getElem?_set_ne (by decide), List.getElem?_set_ne (by decide), List.getElem?_set_ne (by decide), List.getElem?_set_ne (by decide), List.getElem?_set_self (by rw [hn]; decide)]
    · rw [List.getElem?_set_ne (by decide), List.getElem?_set_ne (by decide), List.getElem?_set_ne (by decide), List.getElem?_set_self (by simp only [List.length_set]; rw [hn]; decide)]
      rfl
    · rw [List.getElem?_set_ne (by decide), List.getElem?_set_ne (by decide), List.getElem?_set_self (by simp only [List.length_set]; rw [hn]; decide)]
      rfl
    · rw [List.getElem?_set_ne (by decide), List.getElem?_set_self (by simp only [List.length_set]; rw [hn]; decide)]
    · rw [List.getElem?_set_self (by simp only [List.length_set]; rw [hn]; decide)]
  · obtain ⟨h1, a, b, c, h2⟩ := h.d
    refine ⟨h1, a, b, c, ?_⟩
    show (S.objs ++ _)[ld]? = _
    rw [List.getElem?_append_left hlt]
    exact h2
/-! rd1: the steps -/
theorem rngR_wp {fa : En → M D} {Q : List D → Sto → Prop} (k : wp (fa σ) S (fun d S' => ∃ n : Int, d = .int n ∧ 0 ≤ n ∧ n ≤ 1000 ∧ Q ((List.range n.toNat).map fun (i : Nat) => D.int (i : Int)) S') E) : wp (rng1 fa σ) S Q E := by
  unfold rng1
  rw [wp_bind]
  refine wp_mono k (fun d S' h => ?_) fun _ _ z => z
  obtain ⟨n, rfl, h0, h1, q⟩ := h
  simp only [wp_ite, wp_pure]
  rw [if_pos (by omega)]
  unfold rangeI
  simp only [Int.zero_add]
  exact q
theorem Sg.dc {lc : Nat} {bs : List (Str × Int)} {cs : List (Str × Str × Int)} {r came : Int} (g : Sg σ ld lc bs cs r came) (d : diceAt S ld) : Dc σ S ld := ⟨g.n, g.s1, d⟩
theorem rd1_wp {Q : Fl → Sto → Prop} {lc lb lu : Nat} (g : Sg σ ld lc [] [] 0 0) (w : Wd S ld lc lb lu [] [] 0) (k : ∀ σ' S', Dc σ' S' ld → Q (.nx σ') S') : wp (rd1 σ) S Q E := by
  unfold rd1 forS
  rw [wp_bind]
  refine rngR_wp (rollE_wp (g.dc w.dice) (by decide) (by decide) fun n a b c n0 n1 => ⟨n, rfl, n0, by omega, ?_⟩)
  have w1 := w.roll a b c
  generalize S.put ld _ = S1 at w1 ⊢
  refine wp_loop (fun ds σ' S' => (∀ d ∈ ds, ∃ i : Int, d = .int i) ∧ ∃ bs cs r came, Sg σ' ld lc bs cs r came ∧ Wd S' ld lc lb lu bs cs r ∧ Bk bs cs r came ∧ cs.length + ds.length ≤ 31) (fun d ds σ' S' h => ?_) (fun σ' S' h => ?_) _ _ _ ⟨fun d hd => ?_, [], [], 0, 0, g, w1, ⟨List.nodup_nil, (fun p hp => (by cases hp)), (fun p hp => (by cases hp)), (fun p hp => (by cases hp)), rfl⟩, ?_⟩
  · obtain ⟨hi, bs, cs, r, came, g', w', b', hc⟩ := h
    obtain ⟨i, rfl⟩ := hi _ List.mem_cons_self
    rw [List.length_cons] at hc
    simp only [nameG, wp_pure]
    refine step_wp (st := i) (g'.set (by decide) _) (List.getElem?_set_self (by rw [g'.n]; decide)) (by omega) w' b' fun σ2 S2 bs2 cs2 r2 came2 g2 w2 b2 hc2 => ?_
    exact ⟨fun d hd => hi d (List.mem_cons_of_mem _ hd), bs2, cs2, r2, came2, g2, w2, b2, by omega⟩
  · obtain ⟨_, bs, cs, r, came, g', w', _, _⟩ := h
    exact k _ _ (g'.dc w'.dice)
  · obtain ⟨i, _, rfl⟩ := List.mem_map.mp hd
    exact ⟨_, rfl⟩
  · rw [List.length_map, List.length_range]
    show 0 + n.toNat ≤ 31
    omega
/-! rd2: bolts and lengths -/
theorem rolls_wp {Q : D → Sto → Prop} {fe : En → M D} {lo hi : Int} (h : Dc σ S ld) (n : Nat) (hn : n ≤ 1000) {fit : En → M (List D)} {E : Nat → Sto → Prop} (hit : ∀ Q' : List D → Sto → Prop, (∀ ds S', ds.length ≤ n → diceAt S' ld → Q' ds S') → wp (fit σ) S Q' E)
    (hf : ∀ σ' S', Dc σ' S' ld → wp (fe σ') S' (fun d S2 => diceAt S2 ld ∧ ∃ i : Int, d = .int i ∧ lo ≤ i ∧ i < hi) fun _ _ => False)
    (k : ∀ (is : List Int) S', diceAt S' ld → is.length ≤ n → (∀ i ∈ is, lo ≤ i ∧ i < hi) → Q (.lst (is.map .int)) S') : wp (genE fit [24] (nameG 24) yesT fe chkAll finLst σ) S Q E := by
  unfold genE
  rw [wp_bind]
  refine hit _ fun ds S1 hl d1 => ?_
  refine wp_genL (fun ys ds S' => diceAt S' ld ∧ ∃ is : List Int, ys = is.map .int ∧ (∀ i ∈ is, lo ≤ i ∧ i < hi) ∧ is.length + ds.length ≤ n) (fun ys d ds S' h' => ?_) (fun ys S' h' => ?_) _ _ _ ⟨d1, [], rfl, fun i hi => (by cases hi), by simpa using hl⟩
  · obtain ⟨d', is, rfl, hr, hc⟩ := h'
    rw [List.length_cons] at hc
    simp only [bodG, nameG, yesT, wp_bind, wp_pure, wp_ite, if_true]
    have hD : Dc ((wipeE σ [24]).set 24 (some d)) S' ld := by
      show Dc ((σ.set 24 none).set 24 (some d)) S' ld
      exact (Dc.set (Dc.set ⟨h.n, h.s1, d'⟩ (by decide) _) (by decide) _)
    refine wp_mono (hf _ _ hD) (fun x S2 h2 => ?_) fun _ _ z => z
    obtain ⟨d2, i, rfl, hi1, hi2⟩ := h2
    have hc1 : chkAll (is.map .int) (.int i) = some none := if_pos (by rw [List.length_map]; have : 1000 < sizeLine := by decide
                                                                       omega)
    simp only [hc1]
    refine ⟨d2, is ++ [i], by rw [List.map_append]; rfl, fun j hj => ?_, by rw [List.length_append]; simp only [List.length_cons, List.length_nil]; omega⟩
    rcases List.mem_append.mp hj with hj | hj
    · exact hr j hj
    · rw [List.mem_singleton] at hj
      subst hj
      exact ⟨hi1, hi2⟩
  · obtain ⟨d', is, rfl, hr, hc⟩ := h'
    exact k is S' d' (by simpa using hc) hr
theorem rd2_wp {Q : Fl → Sto → Prop} (h : Dc σ S ld) (k : ∀ (σ' : En) (S' : Sto) (bolts lens : List Int), Dc σ' S' ld → σ'[14]? = some (some (.lst (bolts.map .int))) → σ'[15]? = some (some (.lst (lens.map .int))) → bolts.length ≤ 3 → lens.length ≤ 5 → (∀ i ∈ bolts, 0 ≤ i) → (∀ i ∈ lens, 1 ≤ i) → Q (.nx σ') S') : wp (rd2 σ) S Q E := by
  unfold rd2
  unfold asgS
  rw [wp_bind, tup2_wp]
  refine rolls_wp h 3 (by decide) (lo := 0) (hi := 60) (fun Q' hq => ?_) (fun σ' S' h' => rollE_wp h' (by decide) (by decide) fun r a b c r0 r1 => ⟨h'.d.put a b c, r, rfl, r0, r1⟩) fun bolts S1 d1 hb hbr => ?_
  · refine rngR_wp ?_
    simp only [bin2, cst, wp_bind, wp_pure]
    refine rollE_wp h (by decide) (by decide) fun r a b c r0 r1 => ?_
    rw [wp_addI]
    refine ⟨1 + r, rfl, by omega, by omega, hq _ _ ?_ (h.d.put a b c)⟩
    rw [List.length_map, List.length_range]
    omega
  have h1 : Dc σ S1 ld := ⟨h.n, h.s1, d1⟩
  refine rolls_wp h1 5 (by decide) (lo := 1) (hi := 26) (fun Q' hq => ?_) (fun σ' S' h' => ?_) fun lens S2 d2 hl hlr => ?_
  · refine rngR_wp (rollE_wp h1 (by decide) (by decide) fun r a b c r0 r1 => ⟨r, rfl, r0, by omega, hq _ _ ?_ (h1.d.put a b c)⟩)
    rw [List.length_map, List.length_range]
    omega
  · simp only [bin2, cst, wp_bind, wp_pure]
    refine rollE_wp h' (by decide) (by decide) fun r a b c r0 r1 => ?_
    rw [wp_addI]
    exact ⟨h'.d.put a b c, 1 + r, rfl, by omega, by omega⟩
  simp only [tupG, tupD, consG, nilG, nameG, wp_bind, wp_pure, wp_ite, List.length_cons, List.length_nil, if_true, show ((0 : Nat) + 1 + 1 = 2) = True from eq_true rfl]
  refine k _ S2 bolts lens (Dc.set (Dc.set ⟨h.n, h.s1, d2⟩ (by decide) _) (by decide) _) ?_ ?_ hb hl (fun i hi => (hbr i hi).1) fun i hi => (hlr i hi).1
  · rw [List.getElem?_set_ne (by decide), List.getElem?_set_self (h.lt (by decide))]
  · rw [List.getElem?_set_self (by rw [List.length_set]; exact h.lt (by decide))]
/-! rd3: the law's ways, sorted -/
theorem rd3_wp {Q : Fl → Sto → Prop} {bolts lens : List Int} (h : Dc σ S ld) (h14 : σ[14]? = some (some (.lst (bolts.map .int)))) (h15 : σ[15]? = some (some (.lst (lens.map .int)))) (hb : bolts.length ≤ 3) (hl : lens.length ≤ 5)
    (k : Q (.nx (σ.set 16 (some (.lst (sortK ((waysW bolts lens).map keyW)))))) S) : wp (rd3 σ) S Q E := by
  have W := waysW_ok hb hl
  have hcap : (waysW bolts lens).length ≤ 243 := by
    refine Nat.le_trans W.l ?_
    have : lens.length = 0 ∨ lens.length = 1 ∨ lens.length = 2 ∨ lens.length = 3 ∨ lens.length = 4 ∨ lens.length = 5 := by omega
    rcases this with e | e | e | e | e | e <;> rw [e] <;> decide
  have hit : itSeq (callE (consA (getV 14) (consA (getV 15) nilA)) (arg 2 D_lawWays)) σ S = .ok ((waysW bolts lens).map encW) S := run_of fun Q E hq => by
    simp only [itSeq, callE, consA, nilA, arg, getV, wp_bind, wp_pure, wp_ite, h14, h15, List.length_cons, List.length_nil, show ((0 : Nat) + 1 + 1 = 2) = True from eq_true rfl, if_true]
    refine ways_wp hb hl ?_
    rw [itemsL_wp]
    exact hq
  have gen : genE (itSeq (callE (consA (getV 14) (consA (getV 15) nilA)) (arg 2 D_lawWays))) [26, 27] (tupG 2 (consG (nameG 26) (consG (nameG 27) nilG))) yesT (tupV (consA (callE (consA (genE (rng1 (callE (consA (getV 27) nilA) lenC)) [24] (nameG 24) (andT (tst1 (bin2 inO (getV 24) (getV 26))) (tst1 (bin2 ltA (bin2 itemO (getV 27) (getV 24)) (cst (.int 10))))) (bin2 itemO (getV 27) (getV 24)) chkAll finLst) nilA) sumC) (consA (getV 26) nilA))) chkAll finLst σ S = .ok (.lst (((waysW bolts lens).map keyW).map encK)) S := by
    rw [genE_ok encW (waysW bolts lens) (fun w => some (encK (keyW w))) hit (fun w hw0 => run_of fun Q E hq => ?_) (Nat.le_trans hcap (by decide)), filterMap_some, List.map_map]
    · rfl
    have t2 : tupD (encW w) = some [encI w.1, encI w.2] := rfl
    simp only [bodG, tupG, t2, consG, nilG, nameG, yesT, wp_bind, wp_pure, wp_ite, List.length_cons, List.length_nil, if_true, show ((0 : Nat) + 1 + 1 = 2) = True from eq_true rfl, tup2_wp]
    obtain ⟨σ1, e1⟩ : ∃ σ1, σ1 = ((wipeE σ [26, 27]).set 26 (some (encI w.1))).set 27 (some (encI w.2)) := ⟨_, rfl⟩
    have hw : wipeE σ [26, 27] = (σ.set 27 none).set 26 none := rfl
    have n1 : σ1.length = 32 := by
      rw [e1, hw]
      simp only [List.length_set]
      exact h.n
    have m26 : σ1[26]? = some (some (encI w.1)) := by
      rw [e1, List.getElem?_set_ne (by decide), List.getElem?_set_self (by rw [hw]; simp only [List.length_set]; rw [h.n]; decide)]
    have m27 : σ1[27]? = some (some (encI w.2)) := by
      rw [e1, List.getElem?_set_self (by rw [hw]; simp only [List.length_set]; rw [h.n]; decide)]
    rw [← e1]
    have hw2 : w.2.length ≤ 3 := by rw [(W.w w hw0).2]; exact hb
    have hit2 : rng1 (callE (consA (getV 27) nilA) lenC) σ1 S = .ok ((List.range w.2.length).map fun (i : Nat) => D.int (i : Int)) S := by
      refine rng_wp (run_of fun Q E hq => ?_) (by omega)
      simp only [callE, consA, nilA, getV, m27, wp_bind, wp_pure, lenT_wp]
      exact hq
    have g2 : genE (rng1 (callE (consA (getV 27) nilA) lenC)) [24] (nameG 24) (andT (tst1 (bin2 inO (getV 24) (getV 26))) (tst1 (bin2 ltA (bin2 itemO (getV 27) (getV 24)) (cst (.int 10))))) (bin2 itemO (getV 27) (getV 24)) chkAll finLst σ1 S = .ok (.lst ((lostW w).map .int)) S := by
      rw [genE_ok (fun (i : Nat) => D.int (i : Int)) (List.range w.2.length) _ hit2 (fun k hk => lost_bod (by rw [n1]; decide) (by decide) (by decide) m26 m27 (List.mem_range.mp hk)) (by rw [List.length_range]; exact Nat.le_trans hw2 (by decide)), filterMap_if]
      unfold lostW
      rw [List.map_map]
      rfl
    simp only [callE, consA, nilA, wp_bind, wp_eq g2, wp_pure, sumL_wp]
    simp only [getV, m26, wp_pure]
    exact hq
  unfold rd3
  simp only [setS, wp_bind, callE, consA, nilA, wp_pure]
  have gen' := gen
  rw [show (callE (consA (getV 14) (consA (getV 15) nilA)) (arg 2 D_lawWays)) = (callE (consA (getV 14) (consA (getV 15) nilA)) (arg 2 D_lawWays)) from rfl] at gen'
  rw [wp_eq gen, sortedK_wp]
  exact k
/-! rd4: best_cuts -/
theorem noRefI : ∀ xs : List Int, noRefs (xs.map D.int) = true
  | [] => rfl
  | x :: xs => by
    show (noRef (.int x) && noRefs (xs.map D.int)) = true
    rw [noRefI xs]
    rfl
theorem flatI : ∀ xs : List Int, flats (xs.map D.int) = true
  | [] => rfl
  | x :: xs => by
    show (flat (.int x) && flats (xs.map D.int)) = true
    rw [flatI xs]
    rfl
theorem flatK (a : Ky) : flat (encK a) = true := by
  show (flat (.int a.1) && (flat (encI a.2) && true)) = true
  have : flat (encI a.2) = true := flatI a.2
  rw [this]
  rfl
theorem fresh_use {Q : D → Sto → Prop} {den : List D → M D} {ds : List D} {R : D → Prop} {X : Nat → Prop} (hn : noRefs ds = true) (h : wp (den ds) Sto.e (fun d _ => flat d = true ∧ R d) fun c _ => X c) (k : ∀ d, R d → Q d S) (kx : ∀ c, X c → E c S) : wp (freshD den ds) S Q E := by
  unfold wp at h ⊢
  unfold freshD
  simp only [hn, if_true]
  cases e : den ds Sto.e with
  | stk => rw [e] at h; exact h.elim
  | exc c S' => rw [e] at h; exact kx c h
  | ok d S' =>
    rw [e] at h
    simp only [h.1, if_true]
    exact k d h.2
theorem sortK_rows (ks : List Ky) : ∃ rs : List Ky, sortK ks = rs.map encK ∧ rs.length = ks.length := by
  have hm : ∀ d ∈ sortK ks, ∃ a : Ky, d = encK a := fun d hd => by
    obtain ⟨q, h⟩ := sortP_mem.mp hd
    rw [zip_self] at h
    obtain ⟨p, hp, e⟩ := List.mem_map.mp h
    cases e
    exact ⟨p, rfl⟩
  have key : ∀ L : List D, (∀ d ∈ L, ∃ p : Ky, d = encK p) → ∃ rs : List Ky, L = rs.map encK := by
    intro L
    induction L with
    | nil => intro _; exact ⟨[], rfl⟩
    | cons d L ih =>
      intro h
      obtain ⟨p, e⟩ := h d List.mem_cons_self
      obtain ⟨rs, e2⟩ := ih fun x hx => h x (List.mem_cons_of_mem _ hx)
      exact ⟨p :: rs, by rw [e, e2]; rfl⟩
  obtain ⟨rs, e⟩ := key _ hm
  refine ⟨rs, e, ?_⟩
  have h : (sortK ks).length = ks.length := by
    unfold sortK sortP
    rw [List.length_map, isort_len, zip_self, List.length_map]
  rw [e, List.length_map] at h
  exact h
theorem neKs_wp {Q : D → Sto → Prop} (ks : List Ky) : wp (neA (.lst (sortK ks)) (.lst [])) S Q E = Q (.bl (!ks.isEmpty)) S := by
  obtain ⟨rs, e, hl⟩ := sortK_rows ks
  rw [e]
  refine wp_eq ?_
  have h1 : py S (.lst (rs.map encK)) = some (.list (rs.map kP)) := by
    show ((rs.map encK).mapM (toPy S 11)).map PyData.list = _
    rw [encKs_py S 8]
    rfl
  have h2 : py S (.lst []) = some (.list []) := rfl
  show (match py S (.lst (rs.map encK)), py S (.lst []) with
    | some a, some b => Fd.R.ok (D.bl (!PyData.eqv a b)) S
    | _, _ => .stk) = _
  rw [h1, h2]
  cases rs with
  | nil =>
    rw [List.eq_nil_of_length_eq_zero hl.symm]
    simp [PyData.eqv, PyData.eqvAll]
  | cons p l =>
    cases ks with
    | nil => cases hl
    | cons => simp [PyData.eqv, PyData.eqvAll]
theorem rd4_wp {Q : Fl → Sto → Prop} {bolts lens : List Int} (h14 : σ[14]? = some (some (.lst (bolts.map .int)))) (h15 : σ[15]? = some (some (.lst (lens.map .int)))) (h16 : σ[16]? = some (some (.lst (sortK ((waysW bolts lens).map keyW))))) (hb : bolts.length ≤ 3) (hl : lens.length ≤ 5) (h1 : ∀ x ∈ lens, 1 ≤ x) (h0 : ∀ x ∈ bolts, 0 ≤ x)
    (k : Q (.nx σ) S) : wp (rd4 σ) S Q E := by
  have nr : noRefs [.lst (bolts.map .int), .lst (lens.map .int)] = true := by
    show (noRefs (bolts.map D.int) && (noRefs (lens.map D.int) && true)) = true
    rw [noRefI, noRefI]
    rfl
  unfold rd4
  simp only [ifS, tst1, bin2, wp_bind, told_wp, callE, consA, nilA, arg, getV, h14, h15, wp_pure, wp_ite, List.length_cons, List.length_nil, show ((0 : Nat) + 1 + 1 = 2) = True from eq_true rfl, if_true]
  refine fresh_use (R := fun d => ∃ b, d = encK b ∧ Least b ((waysW bolts lens).map keyW)) (X := fun c => c = 0 ∧ waysW bolts lens = []) nr (wp_mono (best_ok hb hl h1 h0) (fun d _ hd => ?_) fun c _ hc => hc) (fun d hd => ?_) fun c hc => ?_
  · obtain ⟨b, rfl, hL⟩ := hd
    exact ⟨flatK b, b, rfl, hL⟩
  · obtain ⟨b, rfl, hL⟩ := hd
    cases ew : (waysW bolts lens).map keyW with
    | nil =>
      rw [ew] at hL
      cases hL.1
    | cons a as =>
      rw [ew] at hL h16
      obtain ⟨b2, r2, e2, hL2⟩ := sortK_head (ks := a :: as) (List.cons_ne_nil _ _)
      have eb := hL.uniq hL2 fun x => Iff.rfl
      subst eb
      have hne : ∀ {Q : D → Sto → Prop} {E : Nat → Sto → Prop}, wp (neA (.lst (sortK (a :: as))) (.lst [])) S Q E = Q (.bl true) S := fun {Q E} => neKs_wp _
      have hix : ∀ {Q : D → Sto → Prop} {E : Nat → Sto → Prop}, wp (itemO (.lst (sortK (a :: as))) (.int 0)) S Q E = Q (encK b) S := fun {Q E} => by rw [e2]; exact ixL0_wp _ _
      simp only [ifV, tst1, bin2, getV, cst, h16, wp_bind, wp_pure, wp_ite, lst0_wp, hne, wp_asB, if_true, hix, neK_wp, Bool.false_eq_true, if_false, skip]
      exact k
  · obtain ⟨rfl, ew⟩ := hc
    rw [ew] at h16
    have hne : ∀ {Q : D → Sto → Prop} {E : Nat → Sto → Prop}, wp (neA (.lst (sortK (List.map keyW []))) (.lst [])) S Q E = Q (.bl false) S := fun {Q E} => neKs_wp _
    simp only [show okc 0 = true from by decide, if_true, ifV, tst1, bin2, getV, cst, h16, wp_bind, wp_pure, wp_ite, lst0_wp, hne, wp_asB, Bool.false_eq_true, if_false, neS_wp, decide_true, Bool.not_true, skip]
    exact k
end
end K04

set_option Elab.async false
set_option linter.all false
set_option maxRecDepth 100000
set_option maxHeartbeats 1000000
namespace K04
open PySem PySem.Spec PyProof.Rows L2 LamX Fd
section
variable {S : Sto} {E : Nat → Sto → Prop} {σ : En} {ld : Nat}
theorem call1_wp {Q : D → Sto → Prop} {f : En → M D} {g : List D → M D} : wp (callE (consA f nilA) g σ) S Q E = wp (f σ) S (fun x S1 => wp (g [x]) S1 Q E) E := by
  simp only [callE, consA, nilA, wp_bind, wp_pure]
/-! rd5: what is wanted -/
def namesS (n : Nat) : List Str := (List.range n).map fun (i : Nat) => nmOf "s" (i : Int)
theorem namesS_ok {n : Nat} (h : n ≤ 4) : (namesS n).Nodup ∧ SortedN (namesS n) := by
  have : n = 0 ∨ n = 1 ∨ n = 2 ∨ n = 3 ∨ n = 4 := by omega
  unfold SortedN
  rcases this with rfl | rfl | rfl | rfl | rfl <;> refine ⟨?_, ?_⟩ <;> decide +kernel
structure Wt (ws : List (Str × Int)) : Prop where
  n : (ws.map (·.1)).Nodup
  s : SortedN (ws.map (·.1))
  l : ws.length ≤ 4
  v : ∀ q ∈ ws, 0 ≤ q.2 ∧ q.2 ≤ 100
theorem rd5_wp {Q : Fl → Sto → Prop} (h : Dc σ S ld) (k : ∀ (σ' : En) (S' : Sto) (ws : List (Str × Int)) (most : Int), σ'.length = 32 → σ'[17]? = some (some (.dct false (ws.map kvOf))) → σ'[18]? = some (some (.int most)) → Wt ws → 1 ≤ most → Q (.nx σ') S') : wp (rd5 σ) S Q E := by
  unfold rd5
  unfold asgS
  rw [wp_bind, tup2_wp]
  refine dictV1_wp ?_
  unfold genE
  rw [wp_bind]
  refine rngR_wp (rollE_wp h (by decide) (by decide) fun n a b c n0 n1 => ⟨n, rfl, n0, by omega, ?_⟩)
  have d1 := h.d.put a b c
  generalize S.put ld _ = S1 at d1 ⊢
  refine wp_genL (fun ys ds S' => diceAt S' ld ∧ ∃ (done todo : List Nat) (ws : List (Str × Int)), List.range n.toNat = done ++ todo ∧ ds = todo.map (fun (i : Nat) => D.int (i : Int)) ∧ ys = ws.map pairR ∧ ws.map (·.1) = done.map (fun (i : Nat) => nmOf "s" (i : Int)) ∧ ∀ q ∈ ws, 0 ≤ q.2 ∧ q.2 ≤ 100) (fun ys d ds S' h' => ?_) (fun ys S' h' => ?_) _ _ _ ⟨d1, [], List.range n.toNat, [], rfl, rfl, rfl, rfl, fun q hq => (by cases hq)⟩
  · obtain ⟨d', done, todo, ws, hf, hds, rfl, hnm, hv⟩ := h'
    cases todo with
    | nil => cases hds
    | cons i todo =>
      rw [List.map_cons] at hds
      injection hds with hd1 hd2
      subst hd1
      have hi : i < n.toNat := List.mem_range.mp (by rw [hf]; exact List.mem_append_right _ List.mem_cons_self)
      have hlen : ws.length = done.length := by
        have := congrArg List.length hnm
        rw [List.length_map, List.length_map] at this
        exact this
      have hdl : done.length ≤ 4 := by
        have := congrArg List.length hf
        rw [List.length_range, List.length_append] at this
        omega
      have hw : wipeE σ [24] = σ.set 24 none := rfl
      have hD : Dc ((wipeE σ [24]).set 24 (some (.int (i : Int)))) S' ld := by
        rw [hw]
        exact (Dc.set (Dc.set ⟨h.n, h.s1, d'⟩ (by decide) _) (by decide) _)
      have e24 : ((wipeE σ [24]).set 24 (some (D.int (i : Int))))[24]? = some (some (.int (i : Int))) := List.getElem?_set_self (by rw [hw, List.length_set]; exact h.lt (by decide))
      simp only [bodG, nameG, yesT, wp_bind, wp_pure, wp_ite, if_true, tup2_wp]
      generalize (wipeE σ [24]).set 24 (some (D.int (i : Int))) = σ1 at hD e24 ⊢
      simp only [bin2, cst, wp_bind, wp_pure, call1_wp, getV, e24, str_wp (i := (i : Int)) (by omega) (by omega), addN_wp (c := "s") (i := (i : Int)) (by omega) (by omega) (by decide)]
      refine rollE_wp hD (by decide) (by decide) fun r a b c r0 r1 => ?_
      have hz24 : (ws.map pairR).length < sizeLine := by
        rw [List.length_map, hlen]
        exact Nat.lt_of_le_of_lt hdl (by decide)
      have hc1 : chkAll (ws.map pairR) (.tup [.str (nmOf "s" (i : Int)), .int r]) = some none := if_pos hz24
      simp only [hc1]
      refine ⟨hD.d.put a b c, done ++ [i], todo, ws ++ [(nmOf "s" (i : Int), r)], by rw [hf, List.append_assoc]; rfl, hd2, by rw [List.map_append]; rfl, by rw [List.map_append, List.map_append, hnm]; rfl, fun q hq => ?_⟩
      rcases List.mem_append.mp hq with hq | hq
      · exact hv q hq
      · rw [List.mem_singleton] at hq
        subst hq
        exact ⟨r0, by show r ≤ 100; omega⟩
  · obtain ⟨d', done, todo, ws, hf, hds, rfl, hnm, hv⟩ := h'
    have hds : todo = [] := List.map_eq_nil_iff.mp hds.symm
    subst hds
    rw [List.append_nil] at hf
    subst hf
    have hn4 : n.toNat ≤ 4 := by omega
    obtain ⟨o1, o2⟩ := namesS_ok hn4
    have hnm : ws.map (·.1) = namesS n.toNat := hnm
    have hnd : (ws.map (·.1)).Nodup := by rw [hnm]; exact o1
    have hlen : ws.length ≤ 4 := by
      have := congrArg List.length hnm
      unfold namesS at this
      rw [List.length_map, List.length_map, List.length_range] at this
      omega
    refine wp_of (a := D.lst (ws.map pairR)) (S' := S') rfl ?_
    rw [dct_made hnd]
    simp only
    have h1 : Dc σ S' ld := ⟨h.n, h.s1, d'⟩
    simp only [bin2, cst, wp_bind, wp_pure]
    refine rollE_wp h1 (by decide) (by decide) fun r a b c r0 r1 => ?_
    simp only [wp_addI, tupG, tupD, consG, nilG, nameG, wp_bind, wp_pure, wp_ite, List.length_cons, List.length_nil, if_true, show ((0 : Nat) + 1 + 1 = 2) = True from eq_true rfl]
    refine k _ _ ws (1 + r) (by rw [List.length_set, List.length_set]; exact h.n) ?_ ?_ ⟨hnd, by rw [hnm]; exact o2, hlen, hv⟩ (by omega)
    · rw [List.getElem?_set_ne (by decide), List.getElem?_set_self (h.lt (by decide))]
    · rw [List.getElem?_set_self (by rw [List.length_set]; exact h.lt (by decide))]
/-! rd6: lays_for -/
theorem flatS : ∀ xs : List Str, flats (xs.map D.str) = true
  | [] => rfl
  | x :: xs => by
    show (flat (.str x) && flats (xs.map D.str)) = true
    rw [flatS xs]
    rfl
theorem flatL : ∀ xs : List Lay, flats (xs.map encL) = true
  | [] => rfl
  | x :: xs => by
    show (flat (encL x) && flats (xs.map encL)) = true
    rw [flatL xs]
    have : flat (encL x) = (flat (.int x.1) && (flats (x.2.map D.str) && true)) := rfl
    rw [this, flatS]
    rfl
theorem noRefB : ∀ xs : List (Str × Int), noRefk (xs.map kvOf) = true
  | [] => rfl
  | x :: xs => by
    show (noRef (.int x.2) && noRefk (xs.map kvOf)) = true
    rw [noRefB xs]
    rfl
theorem rd6_wp {Q : Fl → Sto → Prop} {ws : List (Str × Int)} {most : Int} (h17 : σ[17]? = some (some (.dct false (ws.map kvOf)))) (h18 : σ[18]? = some (some (.int most))) (W : Wt ws) (hm : 1 ≤ most)
    (k : ∀ due, Rn ws most [] due → Q (.nx (σ.set 19 (some (.tup (due.map encL))))) S) : wp (rd6 σ) S Q E := by
  have nr : noRefs [.dct false (ws.map kvOf), .int most] = true := by
    show (noRefk (ws.map kvOf) && (noRef (.int most) && true)) = true
    rw [noRefB]
    rfl
  unfold rd6
  simp only [setS, wp_bind, told_wp, callE, consA, nilA, arg, getV, h17, h18, wp_pure, wp_ite, List.length_cons, List.length_nil, show ((0 : Nat) + 1 + 1 = 2) = True from eq_true rfl, if_true]
  refine fresh_use (R := fun d => ∃ due : List Lay, d = .tup (due.map encL) ∧ Rn ws most [] due) (X := fun _ => False) nr (wp_mono (lays_ok W.n W.s (Nat.le_trans W.l (by decide)) W.v hm) (fun d _ hd => ?_) fun c _ hc => hc) (fun d hd => ?_) fun c hc => hc.elim
  · obtain ⟨due, rfl, hR⟩ := hd
    exact ⟨flatL due, due, rfl, hR⟩
  · obtain ⟨due, rfl, hR⟩ := hd
    exact k due hR
/-! rd7: nothing made, all left -/
structure Lw (σ : En) (ws : List (Str × Int)) (most : Int) (fin : List Lay) : Prop where
  n : σ.length = 32
  s17 : σ[17]? = some (some (.dct false (ws.map kvOf)))
  s18 : σ[18]? = some (some (.int most))
  s19 : σ[19]? = some (some (.tup (fin.map encL)))
def madeW (ws : List (Str × Int)) (due : List Lay) : List (Str × Int) := ws.map fun q => (q.1, sumL due q.1)
theorem Lw.set {ws : List (Str × Int)} {most : Int} {fin : List Lay} (g : Lw σ ws most fin) {i : Nat} (h : 17 ≠ i ∧ 18 ≠ i ∧ 19 ≠ i) (v : Option D) : Lw (σ.set i v) ws most fin :=
  ⟨by rw [List.length_set]; exact g.n, by rw [List.getElem?_set_ne h.1.symm]; exact g.s17, by rw [List.getElem?_set_ne h.2.1.symm]; exact g.s18, by rw [List.getElem?_set_ne h.2.2.symm]; exact g.s19⟩
/-- a comprehension over a dict's keys that makes rows of a dict -/
theorem genKV_ok {ls : List (Str × Int)} {j : Nat} {fe : En → M D} (f : Str × Int → Int) (h : σ[j]? = some (some (.dct false (ls.map kvOf)))) (hz : ls.length ≤ 100) (n28 : 28 < σ.length)
    (hf : ∀ q ∈ ls, fe (σ.set 28 (some (.str q.1))) S = .ok (pairR (q.1, f q)) S) : genE (itSeq (getV j)) [28] (nameG 28) yesT fe chkAll finLst σ S = .ok (.lst ((ls.map fun q => (q.1, f q)).map pairR)) S := by
  have hit : itSeq (getV j) σ S = .ok (ls.map fun p => D.str p.1) S := run_of fun Q E hq => by
    simp only [itSeq, getV, wp_bind, wp_pure, h, itemsD_wp, kv_keys]
    exact hq
  rw [genE_ok (fun p : Str × Int => D.str p.1) ls (fun q => some (pairR (q.1, f q))) hit (fun q hq0 => run_of fun Q E hq => ?_) (Nat.le_trans hz (by decide)), filterMap_some, List.map_map]
  · rfl
  · simp only [bodG, nameG, yesT, wipeE, wp_bind, wp_pure, wp_ite, if_true, List.set_set, wp_eq (hf q hq0)]
    exact hq
theorem rd7_wp {Q : Fl → Sto → Prop} {ws : List (Str × Int)} {most : Int} {fin : List Lay} (g : Lw σ ws most fin) (W : Wt ws)
    (k : ∀ σ' : En, Lw σ' ws most fin → σ'[20]? = some (some (.dct false ((madeW ws []).map kvOf))) → σ'[13]? = some (some (.dct false ((leftW ws []).map kvOf))) → σ'[21]? = some (some (.lst [])) → Q (.nx σ') S) : wp (rd7 σ) S Q E := by
  have n28 : 28 < σ.length := by rw [g.n]; decide
  have e1 := genKV_ok (S := S) (σ := σ) (ls := ws) (j := 17) (fe := tupV (consA (getV 28) (consA (cst (.int 0)) nilA))) (fun _ => 0) g.s17 (Nat.le_trans W.l (by decide)) n28 fun q hq0 => run_of fun Q E hq => by
    simp only [tup2_wp, getV, cst, wp_pure, List.getElem?_set_self n28]
    exact hq
  have em : (ws.map fun q => (q.1, (0 : Int))) = madeW ws [] := rfl
  rw [em] at e1
  have hnm : ((madeW ws []).map (·.1)).Nodup := by
    unfold madeW
    rw [List.map_map]
    exact W.n
  have d1 : dictV (consA (lockQ (locV 17) (genE (itSeq (getV 17)) [28] (nameG 28) yesT (tupV (consA (getV 28) (consA (cst (.int 0)) nilA))) chkAll finLst)) nilA) σ S = .ok (.dct false ((madeW ws []).map kvOf)) S := run_of fun Q E hq => by
    refine dictV1_wp ?_
    rw [lockD_wp g.s17, wp_eq e1, dct_made hnm]
    exact hq
  have d2 : dictV (consA (itemsE (getV 17)) nilA) σ S = .ok (.dct false (ws.map kvOf)) S := run_of fun Q E hq => by
    refine dictV1_wp ?_
    have hi : getV 17 σ S = .ok (.dct false (ws.map kvOf)) S := by unfold getV; rw [g.s17]; rfl
    rw [itemsE_wp hi, dct_made W.n]
    exact hq
  unfold rd7
  simp only [asgS, wp_bind, tup3_wp, wp_eq d1, wp_eq d2, lst0_wp, tupG, tupD, consG, nilG, nameG, wp_pure, wp_ite, List.length_cons, List.length_nil, if_true, show ((0 : Nat) + 1 + 1 + 1 = 3) = True from eq_true rfl]
  refine k _ (((g.set ⟨by decide, by decide, by decide⟩ _).set ⟨by decide, by decide, by decide⟩ _).set ⟨by decide, by decide, by decide⟩ _) ?_ ?_ ?_
  · rw [List.getElem?_set_ne (by decide), List.getElem?_set_ne (by decide), List.getElem?_set_self (by rw [g.n]; decide)]
  · rw [List.getElem?_set_ne (by decide), List.getElem?_set_self (by rw [List.length_set, g.n]; decide), leftW_nil]
  · rw [List.getElem?_set_self (by rw [List.length_set, List.length_set, g.n]; decide)]
/-! rd8: the law's own lays -/
theorem posNames {ls : List (Str × Int)} {j : Nat} (h : σ[j]? = some (some (.dct false (ls.map kvOf)))) (hj : j ≠ 28) (hn : (ls.map (·.1)).Nodup) (hz : ls.length ≤ 100) (n28 : 28 < σ.length) : genE (itSeq (getV j)) [28] (nameG 28) (tst1 (bin2 gtI (bin2 itemO (getV j) (getV 28)) (cst (.int 0)))) (getV 28) chkAll finLst σ S = .ok (.lst (((posW ls).map (·.1)).map D.str)) S := by
  have hit : itSeq (getV j) σ S = .ok (ls.map fun p => D.str p.1) S := run_of fun Q E hq => by
    simp only [itSeq, getV, wp_bind, wp_pure, h, itemsD_wp, kv_keys]
    exact hq
  rw [genE_ok (fun p : Str × Int => D.str p.1) ls (fun q => if decide (0 < q.2) = true then some (D.str q.1) else none) hit (fun q hq0 => run_of fun Q E hq => ?_) (Nat.le_trans hz (by decide)), filterMap_if, List.map_map]
  · rfl
  · have ej : ∀ v, (σ.set 28 v)[j]? = some (some (.dct false (ls.map kvOf))) := fun v => by rw [List.getElem?_set_ne hj.symm]; exact h
    simp only [bodG, nameG, wipeE, tst1, bin2, getV, cst, wp_bind, wp_pure, wp_ite, List.set_set, List.getElem?_set_self n28, ej, itemV_wp (val_bs hn hq0), wp_gtI, wp_asB]
    by_cases c : decide (0 < q.2) = true
    · rw [if_pos c] at hq ⊢
      exact hq
    · rw [if_neg c] at hq ⊢
      exact hq
theorem neStrs_wp {Q : D → Sto → Prop} (ns : List Str) : wp (neA (.lst (ns.map D.str)) (.lst [])) S Q E = Q (.bl (!ns.isEmpty)) S := by
  refine wp_eq ?_
  have h1 : py S (.lst (ns.map D.str)) = some (.list (ns.map PyData.str)) := by
    show ((ns.map D.str).mapM (toPy S 11)).map PyData.list = _
    rw [mapM_strs S 11]
    rfl
  have h2 : py S (.lst []) = some (.list []) := rfl
  show (match py S (.lst (ns.map D.str)), py S (.lst []) with
    | some a, some b => Fd.R.ok (D.bl (!PyData.eqv a b)) S
    | _, _ => .stk) = _
  rw [h1, h2]
  cases ns with
  | nil => simp [PyData.eqv, PyData.eqvAll]
  | cons p l => simp [PyData.eqv, PyData.eqvAll]
theorem inS_wp {Q : D → Sto → Prop} (xs : List Str) (k : Str) : wp (inO (.str k) (.tup (xs.map D.str))) S Q E = Q (.bl (decide (k ∈ xs))) S := by
  refine wp_eq ?_
  show (match py S (.str k), (py S (.tup (xs.map D.str))).bind pyItems with
    | some a, some bs => Fd.R.ok (D.bl (bs.any fun z => PyData.eqv z a)) S
    | _, _ => .stk) = _
  have h : py S (.tup (xs.map D.str)) = some (.tuple (xs.map .str)) := by
    show ((xs.map D.str).mapM (toPy S 11)).map PyData.tuple = _
    rw [mapM_strs S 11]
    rfl
  rw [h]
  show Fd.R.ok (D.bl ((xs.map PyData.str).any fun z => PyData.eqv z (.str k))) S = _
  congr 2
  rw [Bool.eq_iff_iff, List.any_eq_true, decide_eq_true_eq]
  constructor
  · rintro ⟨z, hz, e⟩
    obtain ⟨i, hi, rfl⟩ := List.mem_map.mp hz
    rw [eqv_str, decide_eq_true_eq] at e
    rw [← e]
    exact hi
  · intro h
    exact ⟨.str k, List.mem_map.mpr ⟨k, h, rfl⟩, by rw [eqv_str]; simp⟩
theorem bestI_wp {Q : D → Sto → Prop} (m : Int) (vs : List Int) : wp (bestC PySem.W.dataLt [.lst ((m :: vs).map .int)]) S Q E = Q (.int (minI m vs)) S := by
  refine wp_eq ?_
  unfold bestC
  show (match pysD S ((m :: vs).map D.int) with
    | some ps => if (alikeC ps && !ps.any isNonP) = true then (match bestP PySem.W.dataLt (((m :: vs).map D.int).zip ps) with
      | some d => Fd.R.ok d S
      | none => .stk) else Fd.R.stk
    | none => .stk) = _
  have hp : pysD S ((m :: vs).map D.int) = some ((m :: vs).map PyData.int) := mapM_ints S 11 (m :: vs)
  rw [hp]
  have ha : (alikeC ((m :: vs).map PyData.int) && !((m :: vs).map PyData.int).any isNonP) = true := by
    rw [Bool.and_eq_true]
    refine ⟨?_, ?_⟩
    · unfold alikeC
      rw [List.all_eq_true]
      intro a ha
      rw [List.all_eq_true]
      intro b hb
      obtain ⟨p, _, rfl⟩ := List.mem_map.mp ha
      obtain ⟨q, _, rfl⟩ := List.mem_map.mp hb
      simp [PySem.W.alike]
    · have : ((m :: vs).map PyData.int).any isNonP = false := by
        rw [List.any_eq_false]
        intro a ha
        obtain ⟨p, _, rfl⟩ := List.mem_map.mp ha
        exact Bool.false_ne_true
      rw [this]
      rfl
  simp only [ha, if_true]
  rw [zip_self, List.map_cons]
  show (match some ((vs.map fun x => (D.int x, PyData.int x)).foldl (fun a y => if PySem.W.dataLt y.2 a.2 = true then y else a) (D.int m, PyData.int m)).1 with
    | some d => Fd.R.ok d S
    | none => .stk) = _
  have key : ∀ (vs : List Int) (m : Int), (vs.map fun x => (D.int x, PyData.int x)).foldl (fun (a y : D × PyData) => if PySem.W.dataLt y.2 a.2 = true then y else a) (D.int m, PyData.int m) = (D.int (minI m vs), PyData.int (minI m vs)) := by
    intro vs
    induction vs with
    | nil => intro m; rfl
    | cons y vs ih =>
      intro m
      rw [List.map_cons, List.foldl_cons]
      show List.foldl _ (if PySem.W.dataLt (.int y) (.int m) = true then (D.int y, PyData.int y) else (D.int m, PyData.int m)) _ = _
      rw [PySem.W.dataLt_int]
      show _ = (D.int (minI (if y < m then y else m) vs), PyData.int (minI (if y < m then y else m) vs))
      by_cases c : y < m
      · rw [if_pos (decide_eq_true c), if_pos c]
        exact ih y
      · rw [if_neg (by rw [decide_eq_false c]; exact Bool.false_ne_true), if_neg c]
        exact ih m
  rw [key]
theorem tupS_wp {Q : D → Sto → Prop} (xs : List D) : wp (tupC [.lst xs]) S Q E = Q (.tup xs) S := wp_eq rfl
theorem lb1_wp {Q : Fl → Sto → Prop} {ws : List (Str × Int)} {most : Int} {fin due : List Lay} (g : Lw σ ws most fin) (W : Wt ws) (h13 : σ[13]? = some (some (.dct false ((leftW ws due).map kvOf)))) (h21 : σ[21]? = some (some (.lst (due.map encL)))) (hd : due.length ≤ 100000)
    (k : ∀ σ' : En, Lw σ' ws most fin → (σ'[20]? = σ[20]?) → σ'[13]? = some (some (.dct false ((leftW ws (stepL ws most due)).map kvOf))) → σ'[21]? = some (some (.lst ((stepL ws most due).map encL))) → Q (.nx σ') S) : wp (L_law_b1 σ) S Q E := by
  obtain ⟨ls, els⟩ : ∃ ls, ls = leftW ws due := ⟨_, rfl⟩
  have hn' : (ls.map (·.1)).Nodup := by rw [els, leftW_names]; exact W.n
  have hs' : SortedN (ls.map (·.1)) := by rw [els, leftW_names]; exact W.s
  have hz' : ls.length ≤ 100 := by rw [els]; unfold leftW; rw [List.length_map]; exact Nat.le_trans W.l (by decide)
  obtain ⟨ly, ely⟩ : ∃ ly, ly = newL1 ws most due := ⟨_, rfl⟩
  have ely1 : ly.1 = minI most ((posW ls).map (·.2)) := by rw [ely, els]; rfl
  have ely2 : ly.2 = (posW ls).map (·.1) := by rw [ely, els]; rfl
  have estep : leftW ws (stepL ws most due) = ls.map fun q => (q.1, if q.1 ∈ ly.2 then q.2 - ly.1 else q.2) := by rw [leftW_step, ← els, ← ely]
  have edue : stepL ws most due = due ++ [ly] := by rw [ely]; rfl
  rw [← els] at h13
  have hsp : SortedN ((posW ls).map (·.1)) := List.Pairwise.sublist (List.Sublist.map _ List.filter_sublist) hs'
  have n28 : 28 < σ.length := by rw [g.n]; decide
  have e1 := posNames (S := S) h13 (by decide) hn' hz' n28
  unfold L_law_b1
  simp only [seqS, setS, wp_bind]
  simp only [call1_wp, lockD_wp h13, wp_eq e1, wp_pure, sortedN_wp hsp, tupS_wp]
  rw [← ely2]
  have g1 := g.set (i := 22) ⟨by decide, by decide, by decide⟩ (some (.tup (ly.2.map D.str)))
  have a13 : (σ.set 22 (some (.tup (ly.2.map D.str))))[13]? = some (some (.dct false (ls.map kvOf))) := by rw [List.getElem?_set_ne (by decide)]; exact h13
  have a21 : (σ.set 22 (some (.tup (ly.2.map D.str))))[21]? = some (some (.lst (due.map encL))) := by rw [List.getElem?_set_ne (by decide)]; exact h21
  have a20 : (σ.set 22 (some (.tup (ly.2.map D.str))))[20]? = σ[20]? := List.getElem?_set_ne (by decide)
  have a22 : (σ.set 22 (some (.tup (ly.2.map D.str))))[22]? = some (some (.tup (ly.2.map D.str))) := List.getElem?_set_self (by rw [g.n]; decide)
  generalize σ.set 22 (some (.tup (ly.2.map D.str))) = σ1 at g1 a13 a20 a21 a22 ⊢
  have m28 : 28 < σ1.length := by rw [g1.n]; decide
  have hit2 : itSeq (getV 22) σ1 S = .ok ((posW ls).map fun q => D.str q.1) S := run_of fun Q E hq => by
    simp only [itSeq, getV, wp_bind, wp_pure, a22, itemsT_wp]
    rw [ely2, List.map_map]
    exact hq
  have e2 : genE (itSeq (getV 22)) [28] (nameG 28) yesT (bin2 itemO (getV 13) (getV 28)) chkAll finLst σ1 S = .ok (.lst (((posW ls).map (·.2)).map D.int)) S := by
    rw [genE_ok (fun p : Str × Int => D.str p.1) (posW ls) (fun q => some (D.int q.2)) hit2 (fun q hq0 => run_of fun Q E hq => ?_) (Nat.le_trans (Nat.le_trans (List.length_filter_le _ _) hz') (by decide)), filterMap_some, List.map_map]
    · rfl
    · have ej : ∀ v, (σ1.set 28 v)[13]? = some (some (.dct false (ls.map kvOf))) := fun v => by rw [List.getElem?_set_ne (by decide)]; exact a13
      simp only [bodG, nameG, wipeE, yesT, bin2, getV, wp_bind, wp_pure, wp_ite, if_true, List.set_set, List.getElem?_set_self m28, ej, itemV_wp (val_bs hn' (mem_pos hq0))]
      exact hq
  have hz2 : [D.int most].length + (((posW ls).map (·.2)).map D.int).length ≤ sizeLine := by
    rw [List.length_map, List.length_map]
    have h1 : (posW ls).length ≤ ls.length := List.length_filter_le _ _
    have h2 : 101 ≤ sizeLine := by decide
    show 1 + _ ≤ _
    omega
  have hb : callE (consA (bin2 addA (lstV (consA (getV 18) nilA)) (lockQ (locV 22) (genE (itSeq (getV 22)) [28] (nameG 28) yesT (bin2 itemO (getV 13) (getV 28)) chkAll finLst))) nilA) (bestC PySem.W.dataLt) σ1 S = .ok (.int ly.1) S := run_of fun Q E hq => by
    have e18 : getV 18 σ1 S = .ok (.int most) S := by unfold getV; rw [g1.s18]; rfl
    simp only [callE, consA, nilA, bin2, wp_bind, lst1_wp, wp_eq e18, lockT_wp a22, wp_eq e2, addL_wp _ _ hz2, wp_pure]
    have := bestI_wp (S := S) (E := E) (Q := Q) most ((posW ls).map (·.2))
    rw [List.map_cons] at this
    refine this.symm ▸ ?_
    rw [← ely1]
    exact hq
  simp only [seqS, setS, wp_bind, wp_eq hb, wp_pure]
  have g2 := g1.set (i := 23) ⟨by decide, by decide, by decide⟩ (some (.int ly.1))
  have b13 : (σ1.set 23 (some (.int ly.1)))[13]? = some (some (.dct false (ls.map kvOf))) := by rw [List.getElem?_set_ne (by decide)]; exact a13
  have b21 : (σ1.set 23 (some (.int ly.1)))[21]? = some (some (.lst (due.map encL))) := by rw [List.getElem?_set_ne (by decide)]; exact a21
  have b20 : (σ1.set 23 (some (.int ly.1)))[20]? = σ[20]? := by rw [List.getElem?_set_ne (by decide)]; exact a20
  have b22 : (σ1.set 23 (some (.int ly.1)))[22]? = some (some (.tup (ly.2.map D.str))) := by rw [List.getElem?_set_ne (by decide)]; exact a22
  have b23 : (σ1.set 23 (some (.int ly.1)))[23]? = some (some (.int ly.1)) := List.getElem?_set_self (by rw [g1.n]; decide)
  generalize σ1.set 23 (some (.int ly.1)) = σ2 at g2 b13 b20 b21 b22 b23 ⊢
  have p28 : 28 < σ2.length := by rw [g2.n]; decide
  have e3 := genKV_ok (S := S) (σ := σ2) (ls := ls) (j := 13) (fe := tupV (consA (getV 28) (consA (bin2 subI (bin2 itemO (getV 13) (getV 28)) (bin2 mulA (getV 23) (callE (consA (bin2 inO (getV 28) (getV 22)) nilA) intC))) nilA))) (fun q => if q.1 ∈ ly.2 then q.2 - ly.1 else q.2) b13 hz' p28 fun q hq0 => run_of fun Q E hq => by
    have c13 : ∀ v, (σ2.set 28 v)[13]? = some (some (.dct false (ls.map kvOf))) := fun v => by rw [List.getElem?_set_ne (by decide)]; exact b13
    have c22 : ∀ v, (σ2.set 28 v)[22]? = some (some (.tup (ly.2.map D.str))) := fun v => by rw [List.getElem?_set_ne (by decide)]; exact b22
    have c23 : ∀ v, (σ2.set 28 v)[23]? = some (some (.int ly.1)) := fun v => by rw [List.getElem?_set_ne (by decide)]; exact b23
    simp only [tup2_wp, bin2, callE, consA, nilA, getV, wp_bind, wp_pure, List.getElem?_set_self p28, c13, c22, c23, itemV_wp (val_bs hn' hq0), inS_wp, wp_intB, mulB_wp, wp_subI]
    by_cases c : q.1 ∈ ly.2
    · rw [if_pos (decide_eq_true c)]
      rw [show pairR (q.1, if q.1 ∈ ly.2 then q.2 - ly.1 else q.2) = .tup [.str q.1, .int (q.2 - ly.1)] by rw [if_pos c]; rfl] at hq
      exact hq
    · rw [if_neg (by rw [decide_eq_false c]; exact Bool.false_ne_true), Int.sub_zero]
      rw [show pairR (q.1, if q.1 ∈ ly.2 then q.2 - ly.1 else q.2) = .tup [.str q.1, .int q.2] by rw [if_neg c]; rfl] at hq
      exact hq
  rw [← estep] at e3
  have hnn : ((leftW ws (stepL ws most due)).map (·.1)).Nodup := by rw [leftW_names]; exact W.n
  have d3 : dictV (consA (lockQ (locV 13) (genE (itSeq (getV 13)) [28] (nameG 28) yesT (tupV (consA (getV 28) (consA (bin2 subI (bin2 itemO (getV 13) (getV 28)) (bin2 mulA (getV 23) (callE (consA (bin2 inO (getV 28) (getV 22)) nilA) intC))) nilA))) chkAll finLst)) nilA) σ2 S = .ok (.dct false ((leftW ws (stepL ws most due)).map kvOf)) S := run_of fun Q E hq => by
    refine dictV1_wp ?_
    rw [lockD_wp b13, wp_eq e3, dct_made hnn]
    exact hq
  have hz3 : (due.map encL).length + [D.tup [D.int ly.1, D.tup (ly.2.map D.str)]].length ≤ sizeLine := by
    rw [List.length_map]
    have h2 : 100001 ≤ sizeLine := by decide
    show _ + 1 ≤ _
    omega
  simp only [asgS, wp_bind, tup2_wp, bin2, lst1_wp]
  simp only [getV, b21, b22, b23, wp_pure, addL_wp _ _ hz3, wp_eq d3, tupG, tupD, consG, nilG, nameG, wp_bind, wp_ite, List.length_cons, List.length_nil, if_true, show ((0 : Nat) + 1 + 1 = 2) = True from eq_true rfl]
  refine k _ ((g2.set ⟨by decide, by decide, by decide⟩ _).set ⟨by decide, by decide, by decide⟩ _) ?_ ?_ ?_
  · rw [List.getElem?_set_ne (by decide), List.getElem?_set_ne (by decide)]; exact b20
  · rw [List.getElem?_set_self (by rw [List.length_set, g2.n]; decide)]
  · rw [List.getElem?_set_ne (by decide), List.getElem?_set_self (by rw [g2.n]; decide), edue, List.map_append]
    rfl
theorem rd8_wp {Q : Fl → Sto → Prop} {ws : List (Str × Int)} {most : Int} {fin : List Lay} (g : Lw σ ws most fin) (W : Wt ws) (hm : 1 ≤ most) (h20 : σ[20]? = some (some (.dct false ((madeW ws []).map kvOf)))) (h13 : σ[13]? = some (some (.dct false ((leftW ws []).map kvOf)))) (h21 : σ[21]? = some (some (.lst [])))
    (k : ∀ (σ' : En) (due : List Lay), Lw σ' ws most fin → σ'[20]? = some (some (.dct false ((madeW ws []).map kvOf))) → σ'[21]? = some (some (.lst (due.map encL))) → Rn ws most [] due → Q (.nx σ') S) : wp (rd8 σ) S Q E := by
  unfold rd8
  have m0 : msL ws [] ≤ 10000 := by
    unfold msL
    rw [leftW_nil]
    have key : ∀ l : List (Str × Int), (∀ q ∈ l, q.2 ≤ 100) → (l.map fun q => q.2.toNat).sum ≤ 100 * l.length := by
      intro l
      induction l with
      | nil => intro _; exact Nat.le_refl _
      | cons q l ih =>
        intro h
        have h1 := h q List.mem_cons_self
        have h2 := ih fun x hx => h x (List.mem_cons_of_mem _ hx)
        rw [List.map_cons, List.sum_cons, List.length_cons]
        omega
    have := key ws fun q hq => (W.v q hq).2
    have := W.l
    omega
  refine wp_while (fun m σ1 S1 => S1 = S ∧ ∃ due, m = msL ws due ∧ m + due.length ≤ 10000 ∧ Lw σ1 ws most fin ∧ σ1[20]? = some (some (.dct false ((madeW ws []).map kvOf))) ∧ σ1[13]? = some (some (.dct false ((leftW ws due).map kvOf))) ∧ σ1[21]? = some (some (.lst (due.map encL))) ∧ ∀ fin, Rn ws most due fin → Rn ws most [] fin) (fun m σ1 S1 h => ?_) 100000 (msL ws []) σ S (by omega) ⟨rfl, [], rfl, by simpa using m0, g, h20, h13, h21, fun _ h => h⟩
  obtain ⟨rfl, due, rfl, hd, g1, h20', h13', h21', hR⟩ := h
  have hnl : ((leftW ws due).map (·.1)).Nodup := by rw [leftW_names]; exact W.n
  have hzl : (leftW ws due).length ≤ 100 := by unfold leftW; rw [List.length_map]; exact Nat.le_trans W.l (by decide)
  have e1 := posNames (S := S1) h13' (by decide) hnl hzl (by rw [g1.n]; decide)
  unfold L_law_t0
  simp only [tst1, bin2, wp_bind]
  rw [lockD_wp h13', wp_eq e1, lst0_wp, neStrs_wp, wp_asB]
  cases e : posW (leftW ws due) with
  | nil =>
    simp only [List.map_nil, List.isEmpty_nil, Bool.not_true, Bool.false_eq_true, if_false]
    exact k _ due g1 h20' h21' (hR due (.stop e))
  | cons p ps =>
    simp only [List.map_cons, List.isEmpty_cons, Bool.not_false, if_true]
    have hpn : posW (leftW ws due) ≠ [] := by rw [e]; exact List.cons_ne_nil _ _
    refine lb1_wp g1 W h13' h21' (by omega) fun σ2 g2 k20 k13 k21 => ?_
    have hlt := msL_lt (most := most) W.n hm hpn
    refine ⟨msL ws (stepL ws most due), hlt, rfl, stepL ws most due, rfl, ?_, g2, by rw [k20]; exact h20', k13, k21, fun fin h => hR fin (.go hpn h)⟩
    show msL ws (stepL ws most due) + (due ++ [newL1 ws most due]).length ≤ 10000
    rw [List.length_append]
    show _ + (_ + 1) ≤ _
    omega
/-! rd9: what the program's lays make -/
theorem rd9_wp {Q : Fl → Sto → Prop} {ws : List (Str × Int)} {most : Int} {fin due : List Lay} (g : Lw σ ws most fin) (W : Wt ws) (h20 : σ[20]? = some (some (.dct false ((madeW ws []).map kvOf)))) (h21 : σ[21]? = some (some (.lst (due.map encL))))
    (k : ∀ σ' : En, Lw σ' ws most fin → σ'[20]? = some (some (.dct false ((madeW ws fin).map kvOf))) → σ'[21]? = some (some (.lst (due.map encL))) → Q (.nx σ') S) : wp (rd9 σ) S Q E := by
  unfold rd9
  rw [lockT_wp g.s19]
  simp only [forS, itSeq, getV, wp_bind, wp_pure, g.s19, itemsT_wp]
  refine wp_loop (fun ds σ1 S1 => S1 = S ∧ ∃ done todo, fin = done ++ todo ∧ ds = todo.map encL ∧ Lw σ1 ws most fin ∧ σ1[20]? = some (some (.dct false ((madeW ws done).map kvOf))) ∧ σ1[21]? = some (some (.lst (due.map encL)))) (fun d ds σ1 S1 h => ?_) (fun σ1 S1 h => ?_) _ _ _ ⟨rfl, [], fin, rfl, rfl, g, h20, h21⟩
  · obtain ⟨rfl, done, todo, hf, hds, g1, k20, k21⟩ := h
    cases todo with
    | nil => cases hds
    | cons ly todo =>
      rw [List.map_cons] at hds
      injection hds with hd1 hd2
      subst hd1
      have t2 : tupD (encL ly) = some [.int ly.1, .tup (ly.2.map D.str)] := rfl
      simp only [tupG, t2, consG, nilG, nameG, wp_bind, wp_pure, wp_ite, List.length_cons, List.length_nil, if_true, show ((0 : Nat) + 1 + 1 = 2) = True from eq_true rfl]
      have g2 := (g1.set (i := 23) ⟨by decide, by decide, by decide⟩ (some (.int ly.1))).set (i := 22) ⟨by decide, by decide, by decide⟩ (some (.tup (ly.2.map D.str)))
      have b20 : ((σ1.set 23 (some (.int ly.1))).set 22 (some (.tup (ly.2.map D.str))))[20]? = some (some (.dct false ((madeW ws done).map kvOf))) := by rw [List.getElem?_set_ne (by decide), List.getElem?_set_ne (by decide)]; exact k20
      have b21 : ((σ1.set 23 (some (.int ly.1))).set 22 (some (.tup (ly.2.map D.str))))[21]? = some (some (.lst (due.map encL))) := by rw [List.getElem?_set_ne (by decide), List.getElem?_set_ne (by decide)]; exact k21
      have b22 : ((σ1.set 23 (some (.int ly.1))).set 22 (some (.tup (ly.2.map D.str))))[22]? = some (some (.tup (ly.2.map D.str))) := List.getElem?_set_self (by rw [List.length_set, g1.n]; decide)
      have b23 : ((σ1.set 23 (some (.int ly.1))).set 22 (some (.tup (ly.2.map D.str))))[23]? = some (some (.int ly.1)) := by rw [List.getElem?_set_ne (by decide), List.getElem?_set_self (by rw [g1.n]; decide)]
      generalize (σ1.set 23 (some (.int ly.1))).set 22 (some (.tup (ly.2.map D.str))) = σ2 at g2 b20 b21 b22 b23 ⊢
      have p28 : 28 < σ2.length := by rw [g2.n]; decide
      obtain ⟨ms, ems⟩ : ∃ ms, ms = madeW ws done := ⟨_, rfl⟩
      rw [← ems] at b20
      have hnm : (ms.map (·.1)).Nodup := by
        rw [ems]
        unfold madeW
        rw [List.map_map]
        exact W.n
      have hzm : ms.length ≤ 100 := by rw [ems]; unfold madeW; rw [List.length_map]; exact Nat.le_trans W.l (by decide)
      have e3 := genKV_ok (S := S1) (σ := σ2) (ls := ms) (j := 20) (fe := tupV (consA (getV 28) (consA (bin2 addA (bin2 itemO (getV 20) (getV 28)) (bin2 mulA (getV 23) (callE (consA (bin2 inO (getV 28) (getV 22)) nilA) intC))) nilA))) (fun q => q.2 + if decide (q.1 ∈ ly.2) = true then ly.1 else 0) b20 hzm p28 fun q hq0 => run_of fun Q E hq => by
        have c20 : ∀ v, (σ2.set 28 v)[20]? = some (some (.dct false (ms.map kvOf))) := fun v => by rw [List.getElem?_set_ne (by decide)]; exact b20
        have c22 : ∀ v, (σ2.set 28 v)[22]? = some (some (.tup (ly.2.map D.str))) := fun v => by rw [List.getElem?_set_ne (by decide)]; exact b22
        have c23 : ∀ v, (σ2.set 28 v)[23]? = some (some (.int ly.1)) := fun v => by rw [List.getElem?_set_ne (by decide)]; exact b23
        simp only [tup2_wp, bin2, callE, consA, nilA, getV, wp_bind, wp_pure, List.getElem?_set_self p28, c20, c22, c23, itemV_wp (val_bs hnm hq0), inS_wp, wp_intB, mulB_wp, wp_addI]
        exact hq
      have eN : (ms.map fun q => (q.1, q.2 + if decide (q.1 ∈ ly.2) = true then ly.1 else 0)) = madeW ws (done ++ [ly]) := by
        rw [ems]
        unfold madeW
        rw [List.map_map]
        refine List.map_congr_left fun q _ => ?_
        show (q.1, sumL done q.1 + if decide (q.1 ∈ ly.2) = true then ly.1 else 0) = (q.1, sumL (done ++ [ly]) q.1)
        rw [sumL_app]
        by_cases c : q.1 ∈ ly.2
        · rw [if_pos c, if_pos (decide_eq_true c)]
        · rw [if_neg c, if_neg (by rw [decide_eq_false c]; exact Bool.false_ne_true)]
      rw [eN] at e3
      have hn2 : ((madeW ws (done ++ [ly])).map (·.1)).Nodup := by
        unfold madeW
        rw [List.map_map]
        exact W.n
      have d3 : dictV (consA (lockQ (locV 20) (genE (itSeq (getV 20)) [28] (nameG 28) yesT (tupV (consA (getV 28) (consA (bin2 addA (bin2 itemO (getV 20) (getV 28)) (bin2 mulA (getV 23) (callE (consA (bin2 inO (getV 28) (getV 22)) nilA) intC))) nilA))) chkAll finLst)) nilA) σ2 S1 = .ok (.dct false ((madeW ws (done ++ [ly])).map kvOf)) S1 := run_of fun Q E hq => by
        refine dictV1_wp ?_
        rw [lockD_wp b20, wp_eq e3, dct_made hn2]
        exact hq
      unfold L_law_b2
      simp only [setS, wp_bind, wp_eq d3, wp_pure]
      refine ⟨trivial, done ++ [ly], todo, by rw [hf, List.append_assoc]; rfl, hd2, g2.set ⟨by decide, by decide, by decide⟩ _, ?_, ?_⟩
      · rw [List.getElem?_set_self (by rw [g2.n]; decide)]
      · rw [List.getElem?_set_ne (by decide)]; exact b21
  · obtain ⟨rfl, done, todo, hf, hds, g1, k20, k21⟩ := h
    have hds : todo = [] := List.map_eq_nil_iff.mp hds.symm
    subst hds
    rw [List.append_nil] at hf
    subst hf
    exact k _ g1 k20 k21
/-! rd10: all is as it should be -/
def layP (p : Lay) : PyData := .tuple [.int p.1, .tuple (p.2.map .str)]
theorem encLs_py (S : Sto) (n : Nat) : ∀ ks : List Lay, (ks.map encL).mapM (toPy S (n + 3)) = some (ks.map layP)
  | [] => rfl
  | a :: ks => by
    have h : toPy S (n + 3) (encL a) = some (layP a) := by
      show (([D.int a.1, D.tup (a.2.map .str)] : List D).mapM (toPy S (n + 2))).map PyData.tuple = _
      have h2 : toPy S (n + 2) (D.tup (a.2.map .str)) = some (.tuple (a.2.map .str)) := by
        show ((a.2.map D.str).mapM (toPy S (n + 1))).map PyData.tuple = _
        rw [mapM_strs S (n + 1)]
        rfl
      rw [List.mapM_cons, List.mapM_cons, List.mapM_nil, h2]
      rfl
    rw [List.map_cons, List.mapM_cons, encLs_py S n ks, h]
    rfl
theorem neLays_wp {Q : D → Sto → Prop} (due : List Lay) : wp (neA (.lst (due.map encL)) (.lst (due.map encL))) S Q E = Q (.bl false) S := by
  refine wp_eq ?_
  have h1 : py S (.lst (due.map encL)) = some (.list (due.map layP)) := by
    show ((due.map encL).mapM (toPy S 11)).map PyData.list = _
    rw [encLs_py S 8]
    rfl
  show (match py S (.lst (due.map encL)), py S (.lst (due.map encL)) with
    | some a, some b => Fd.R.ok (D.bl (!PyData.eqv a b)) S
    | _, _ => .stk) = _
  rw [h1]
  show Fd.R.ok (D.bl (!PyData.eqv (.list (due.map layP)) (.list (due.map layP)))) S = _
  rw [eqvL_refl]
  · rfl
  · intro p hp
    obtain ⟨l, _, rfl⟩ := List.mem_map.mp hp
    refine eqvT_refl fun q hq => ?_
    rcases List.mem_cons.mp hq with rfl | hq
    · rw [eqv_int]; simp
    rcases List.mem_cons.mp hq with rfl | hq
    · refine eqvT_refl fun x hx => ?_
      obtain ⟨s, _, rfl⟩ := List.mem_map.mp hx
      rw [eqv_str]; simp
    · cases hq
theorem rd10_wp {Q : Fl → Sto → Prop} {ws : List (Str × Int)} {most : Int} {fin due : List Lay} (g : Lw σ ws most fin) (W : Wt ws) (h20 : σ[20]? = some (some (.dct false ((madeW ws fin).map kvOf)))) (h21 : σ[21]? = some (some (.lst (due.map encL)))) (hR : Rn ws most [] fin) (hR2 : Rn ws most [] due) (k : Q (.nx σ) S) : wp (rd10 σ) S Q E := by
  have e := hR2.det hR
  subst e
  have em : madeW ws due = ws := hR.made W.n fun q hq => (W.v q hq).1
  rw [em] at h20
  have lc : ∀ {Q : D → Sto → Prop} {E : Nat → Sto → Prop}, wp (listC false [.tup (due.map encL)]) S Q E = Q (.lst (due.map encL)) S := fun {Q E} => wp_eq rfl
  unfold rd10
  simp only [ifS, orT, tst1, bin2, callE, consA, nilA, getV, cst, wp_bind, wp_pure, wp_ite, h20, h21, g.s17, g.s19, neDctV_wp W.n, wp_asB, Bool.false_eq_true, if_false, lc, neLays_wp, skip]
  exact k
end
/-! ### the round, the law -/
theorem round_ok : RoundOk := by
  intro σ S l hn h1 hd hl
  rw [b3_eq]
  simp only [seqS, wp_bind]
  refine rd0_wp ⟨hn, h1, hd⟩ hl fun σ1 S1 lc lb lu g1 w1 => ?_
  simp only [wp_bind]
  refine rd1_wp g1 w1 fun σ2 S2 d2 => ?_
  simp only [wp_bind]
  refine rd2_wp d2 fun σ3 S3 bolts lens d3 h14 h15 hb hlen hb0 hl1 => ?_
  simp only [wp_bind]
  refine rd3_wp d3 h14 h15 hb hlen ?_
  simp only [wp_bind]
  have n16 : 16 < σ3.length := d3.lt (by decide)
  refine rd4_wp (by rw [List.getElem?_set_ne (by decide)]; exact h14) (by rw [List.getElem?_set_ne (by decide)]; exact h15) (List.getElem?_set_self n16) hb hlen hl1 hb0 ?_
  simp only [wp_bind]
  refine rd5_wp (d3.set (by decide) _) fun σ4 S4 ws most n4 h17 h18 W hm => ?_
  simp only [wp_bind]
  refine rd6_wp h17 h18 W hm fun fin hR => ?_
  simp only [wp_bind]
  have g5 : Lw (σ4.set 19 (some (.tup (fin.map encL)))) ws most fin := ⟨by rw [List.length_set]; exact n4, by rw [List.getElem?_set_ne (by decide)]; exact h17, by rw [List.getElem?_set_ne (by decide)]; exact h18, List.getElem?_set_self (by rw [n4]; decide)⟩
  refine rd7_wp g5 W fun σ6 g6 k20 k13 k21 => ?_
  simp only [wp_bind]
  refine rd8_wp g6 W hm k20 k13 k21 fun σ7 due g7 m20 m21 hR2 => ?_
  simp only [wp_bind]
  refine rd9_wp g7 W m20 m21 fun σ8 g8 p20 p21 => ?_
  simp only
  exact rd10_wp g8 W p20 p21 hR hR2 ⟨σ8, rfl, g8.n⟩
theorem k04 : PySem.Challenge.rw_tailorstack_k04_cuts_from_bolts.Holds := holds_of (law_of round_ok)
end K04

theorem PySem.Challenge.cw_tailorstack_k04_cuts_from_bolts_holds : PySem.Challenge.rw_tailorstack_k04_cuts_from_bolts.Holds := by
  exact K04.k04
